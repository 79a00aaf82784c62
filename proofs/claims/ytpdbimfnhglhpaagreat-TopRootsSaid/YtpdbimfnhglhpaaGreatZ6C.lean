/- Lemmas that the claim of this folder uses; each states its own conditions. Lines were printed by a program of ours. -/
import Derived.Test.YtpdbimfnhglhpaaGreatZ6B
set_option linter.unusedVariables false
set_option linter.unusedSimpArgs false
set_option linter.unusedSectionVars false
open Go.Value renaming int → yas, pointer → yau
open Go.IntKind renaming i64 → yat
open List renaming getD_eq_getElem?_getD → yD, getElem?_eq_getElem → yE, getElem?_eq_none → yG, replicate → yI, length_set → yM, length_map → yN, length_eq_zero_iff → yR, length_cons → yX, length_pos_iff → yab, take_of_length_le → yae, length_append → yal, length_take → yao
open Nat renaming le_refl → yF, le_trans → yJ, mul_le_mul_right → yL, zero_le → yO, succ_mul → yT, le_mul_of_pos_right → yW, gcd → yZ, add_sub_cancel → yad, mod_lt → yah, add_le_add_left → yaj, le_max_left → yak, mul_comm → yan, div_eq_of_lt → yap, mod_eq_of_lt → yaq
open Rat renaming intCast_mul → yH, mul_eq_zero → yP, div_mul_cancel → yQ, divInt → yS, mul_assoc → yY, mul_nonneg → yaf, sub_eq_add_neg → yam, zero_mul → yar
open Decidable renaming not_not → yK, byContradiction → yaa
open Classical renaming byContradiction → yU
open Int renaming mul_ne_zero → yV, emod_lt_of_pos → yac, mul_le_mul_of_nonneg_right → yag, natCast_mul → yai
open Go.Proofs.Tryz renaming underlying28 → yb, underlying32 → yc, underlying133 → yd, underlying182 → ye, underlying30 → yf, prog → yh, underlying2 → yl, underlying4 → yn
namespace Go.Proofs.YtpdbimfnhglhpaaGreat
open Big renaming zd → ya, raw → yg, ln → yi, zS → yj, sg → yk, hq → ym, qI → yo, qC → yp, qG → yq, nn → yr, j6 → ys, v9 → yt, jm → yu, vP → yv, vl → yw, cmp → yx, getD_set_ne → yy, qv → yz, canon → yA, qE → yB, ZC → yC
namespace Sp
open Go
set_option maxRecDepth 100000
set_option maxHeartbeats 8000000
variable {a b c1 c2 cap n:Nat} {k1 s:Bool} {l:List Int} {p p1 p2:Option Addr} {q1:Rat} {u1 v1 w1 w2:Wd} {x1 x2 z z1 z2:Int}
theorem Jh {p:Option Addr} {n:Nat} {cap:Nat} {l:List Int} (hn:l.length=n):CB 250 [.slice p n cap] [zI (rI .u32) p cap l] (Y:=Unit) (fun y=> .slice p ((yv l).length) cap) (fun y=>[zI (rI .u32) p cap (yv l)]):=by
 refine zg Tryz.func250 rfl rfl (fun c=> ?_)
 refine zN 0 rfl (fun hL0=> ?_)
 refine jg 1 rfl<|zk<|z5 (X:=Nat) (fun x=>x≤l.length∧yv (l.take x)=yv l) (fun x=>[(0,.slice p x cap)]) [] (fun x=>[]) (fun x=>[zI (rI .u32) p cap (l.take x)]) [0] (fun x=>x) n (by exact ⟨Oo,by rw [yae om]⟩) (.c rfl .n) oN ((.e (j:=0) rfl (by rw [yae om]) .n)) ?_
 rintro k hI
 obtain ⟨hk,hT⟩:=hI
 have hlt:(l.take k).length=k:=by rw [yao];omega
 refine qe<|ji (X:=Unit) (fun x=>True) (fun x=>[(14,.bool (decide (0<k∧l.getD (k - 1) 0=0))),(0,.slice p k cap)]) (fun x=>[]) (fun x=>[zI (rI .u32) p cap (l.take k),zI (rI .u32) p cap l]) ?_ ?_
 refine vM 3 rfl<|q8 (qU rfl) (fun h1=> ?_) (fun h1=> ?_)
 refine kS 3 rfl<|zE (qx rfl rfl w6)<|qH 0 ((((k:Nat):Int) - 1).toNat) rfl yb qM rfl J0 rfl om (gD (d:=0) om) (fun b2 o3 a0=> ?_) (x0:=((l.take k).getD ((((k:Nat):Int) - 1).toNat) 0))
 replace a0:=zO.1 a0
 refine zw (zf (j:=0) 0 vJ rfl rfl rfl rfl)<|qY 2 rfl ?_
 exact qL () Qn ((.e rfl (congrArg Value.bool (by rw [Big.getD_take l om];have h1:0<k:=om;have h2:((k:Int) - 1).toNat=k - 1:=om;simp [h1,h2])) (.c rfl .n))) oN ((.of [1,2] rfl))
 refine qY 8 rfl ?_
 exact qL () Qn ((.e rfl (congrArg Value.bool (by have h1:¬0<k:=om;simp [h1])) (.c rfl .n))) oN ((.of [0,1] rfl))
 rintro ⟨⟩ -
 refine zx rfl (fun hc=> ?_) (fun hc=> ?_)
 refine kk6<|zk<|zv<|kS 3 rfl<|zE (qx (z:=(((k - 1):Nat):Int)) rfl rfl (Q9 om))<|zE (ZW (hi:=(k - 1)) yb qM rfl (.s rfl) (.inr ⟨_,rfl⟩) om)<|Vf (V3 0 rfl (k - 1) om) (fun _ _=> ?_)
 refine qY 1 rfl<|zG<|zW (k - 1) (by exact ⟨Oo,by rw [← hT,Big.zev l hc.1 hk hc.2]⟩) om ((.e rfl vA .n)) oN ((.e (j:=0) rfl (by rw [List.take_take];congr 2;omega) (.c (j:=2) rfl .n)))
 refine z7<|ze<|ze<|zn<|zi<|Zn 2 rfl ?_
 have hfin:yv l=l.take k:=by rw [← hT];exact Big.Wf l hk hc
 exact zq rfl () trivial (zj rfl) (by rw [hfin,hlt]) oN ((.e (j:=0) rfl (by rw [hfin]) .n))
theorem zeP {p:Option Addr} {n:Nat} {cap:Nat} {l:List Int} {i:Nat} (hn:l.length=n) (hi:i≤4611686018427387904):CA 257 [.slice p n cap,Vi i] [zI (rI .u32) p cap l] (.int .u32 (l.getD i 0)):=by
 refine zg Tryz.func257 rfl rfl (fun c=> ?_)
 refine zN 0 rfl (fun hL0=> ?_)
 refine jg 1 rfl<|k12 4 rfl<|zx rfl (fun h1=> ?_) (fun h1=> ?_)
 refine jK 2 rfl<|qH 0 i rfl yb qM rfl J0 rfl rfl (gD (d:=0) om) (fun b2 o3 a0=> ?_) (x0:=(l.getD i 0))
 replace a0:=zO.1 a0
 refine zw (zf (j:=0) 0 vJ rfl rfl rfl rfl)<|Zp 1 rfl<|zD ?_
 exact zq rfl () trivial (zj rfl) rfl oN sN
 refine k85 1 rfl ?_
 exact zq rfl () trivial (zj rfl) (by rw [show l.getD i 0=0 by simp [List.getD,yG (show l.length≤i by omega)]]) oN sN
theorem zmT {p1:Option Addr} {n1:Nat} {c1:Nat} {l1:List Int} {p2:Option Addr} {n2:Nat} {c2:Nat} {l2:List Int} (hn1:l1.length=n1) (hn2:l2.length=n2) (hb1:n1≤4398046511104) (hb2:n2≤4398046511104) (ho1:Big.Qk l1) (ho2:Big.Qk l2):CB 222 [.slice p1 n1 c1,.slice p2 n2 c2] [zI (rI .u32) p1 c1 l1,zI (rI .u32) p2 c2 l2] (Y:=(Option Addr)×Nat) (fun y=> .slice (y.1) ((ya (yj l1+yj l2).toNat).length) (y.2)) (fun y=>[zI (rI .u32) (y.1) (y.2) (ya (yj l1+yj l2).toNat)]):=by
 refine zg Tryz.func222 rfl rfl (fun c=> ?_)
 refine zN 0 rfl (fun hL0=> ?_)
 refine zN 1 rfl (fun hL1=> ?_)
 refine jS 1 rfl<|kS 4 rfl<|zE (v:= .int .i64 (((max n1 n2):Nat):Int)) (by rw [show ((((max n1 n2):Nat):Int):Int)=max ((n1:Nat):Int) ((n2:Nat):Int) by omega];exact zei rfl rfl)<|zE (qj rfl rfl)<|Zy rfl rfl (vS (r:=rI .u32) (k:=((max n1 n2)+1)) (x0:=0) (γ0:=()) yb vB rfl rfl rfl rfl om om rfl (fun g _=>by exact zO.2 dd) dd) (fun b1 _=> ?_)
 refine jD 1 rfl<|jn 1 rfl<|k12 3 rfl<|zk<|z5 (X:=Nat×(List Int)×Int) (fun x=>x.1≤max n1 n2+1∧x.2.1.length=x.1∧0≤x.2.2∧x.2.2≤1∧Big.Qk x.2.1∧yj x.2.1+Big.pw x.1*x.2.2=yj (l1.take x.1)+yj (l2.take x.1)) (fun x=>[(6,.int .u32 (x.2.2)),(18,Vi x.1)]) [17,5,4,0,1] (fun x=>[rowA 133 (rI .u32) (Sb b1) ((max n1 n2)+1) (x.2.1++yI (max n1 n2+1 - x.1) 0)]) (fun x=>[]) [0,1] (fun x=>max n1 n2+1 - x.1) (0,[],0) (by exact ⟨Oo,rfl,Od,Od,Big.QU,by simp [yj]⟩) (.c rfl (.e rfl vA .n)) ((.e (i:=0) rfl (by simp) .n):zJ _ _ _) sN ?_
 rintro ⟨i,os,cy⟩ hI
 dsimp only at hI
 try dsimp only
 obtain ⟨hi,hol,a0,hc1,hok,hv⟩:=hI
 have hg1:=yp ho1 i
 have hg2:=yp ho2 i
 refine jg 1 rfl<|zx rfl (fun h2=> ?_) (fun h2=> ?_)
 refine qN<|zi<|qe<|zk<|jS 2 rfl<|kS 2 rfl<|VG rfl rfl (.c rfl (.c rfl .n)) zP (zeP qB Kw) (.c (j:=0) rfl .n) ?_
 refine kS 2 rfl<|VG rfl rfl (.c rfl (.c rfl .n)) zP (zeP qB Kw) (.c (j:=1) rfl .n) ?_
 refine zE (qm (z:=(l1.getD i 0+l2.getD i 0)) rfl rfl (ZU om))<|qJ rfl<|zE (qm (z:=((l1.getD i 0+l2.getD i 0)+cy)) rfl rfl (ZU om))<|jD 1 rfl<|jn 1 rfl<|k12 2 rfl<|zx rfl (fun hc=> ?_) (fun hc=> ?_)
 refine vM 1 rfl<|zE (qx (z:=(((l1.getD i 0+l2.getD i 0)+cy) - 1000000000)) rfl rfl (ZU om))<|vZ 2 rfl<|vM 3 rfl<|zE (zZ (j:=i) yb qM rfl rfl rfl om)<|vO 0 rfl (qh (j:=i) (x0:=(((l1.getD i 0+l2.getD i 0)+cy) - 1000000000)) (γ0:=()) rfl rfl (by first|omega|(rw [yN];omega)|(simp only [yM];omega)|(simp;done)|(simp;omega)) rfl rfl qM (fun _ _=>by exact zO.2 om)) (fun _=> .z) (fun _ _=> ?_)
 refine jq<|zG<|zi<|zv<|zE (qm (z:=(((i+1):Nat):Int)) rfl rfl (Q9 om))<|qJ rfl<|jq<|zW ((i+1),os++[l1.getD i 0+l2.getD i 0+cy - 1000000000],1) (by dsimp only;exact ⟨Oo,by simp [hol],Od,Od,Big.Qz hok om om,Big.zaZ hol hv om⟩) (by dsimp only;omega) (mR rfl) (ho:=((.e (i:=0) rfl (by rw [Big.zbS hol om]) .n):zJ _ _ _)) ((.of [0,1] rfl):q9 _ _ _)
 refine qN<|zi<|zv<|qJ rfl<|qJ rfl<|qJ rfl<|zE (zZ (j:=i) yb qM rfl rfl rfl om)<|vO 0 rfl (qh (j:=i) (x0:=((l1.getD i 0+l2.getD i 0)+cy)) (γ0:=()) rfl rfl (by first|omega|(rw [yN];omega)|(simp only [yM];omega)|(simp;done)|(simp;omega)) rfl rfl qM (fun _ _=>by exact zO.2 om)) (fun _=> .z) (fun _ _=> ?_)
 refine jq<|zG<|zi<|zv<|zE (qm (z:=(((i+1):Nat):Int)) rfl rfl (Q9 om))<|qJ rfl<|jq<|zW ((i+1),os++[l1.getD i 0+l2.getD i 0+cy],0) (by dsimp only;exact ⟨Oo,by simp [hol],Od,Od,Big.Qz hok om om,Big.zaZ hol hv om⟩) (by dsimp only;omega) (mR rfl) (ho:=((.e (i:=0) rfl (by rw [Big.zbS hol om]) .n):zJ _ _ _)) ((.of [0,1] rfl):q9 _ _ _)
 have e3:os++yI (max n1 n2+1 - i) 0=os:=by rw [show max n1 n2+1 - i=0 by omega];simp
 rw [e3]
 have hfin:=Big.zmh ho1 ho2 hok a0 hol om hv
 have htr:yv os=ya (yj l1+yj l2).toNat:=by rw [Big.QO hok,hfin]
 refine z7<|ze<|ze<|zn<|zi<|jK 1 rfl<|qt 0 rfl .z<|zm (qS rfl) zP (Jh Kw) (qX 0 rfl) ?_
 rintro ⟨⟩ -
 refine Zp 1 rfl ?_
 exact zq rfl ((Sb b1),((max n1 n2)+1)) trivial (zj rfl) (by rw [htr]) oN ((.e (j:=0) rfl (by rw [htr]) .n))
theorem zdW (hb1:(ya (a)).length≤4398046511104) (hb2:(ya (b)).length≤4398046511104):jI yh 222 [.slice (p1) ((ya (a)).length) (c1),.slice (p2) ((ya (b)).length) (c2)] [] [zI (rI .u32) (p1) (c1) (ya (a)),zI (rI .u32) (p2) (c2) (ya (b))] (Y:=(Option Addr)×(Nat)) (fun y=>True) (fun y=> .slice (y.1) ((ya (a+b)).length) (y.2)) (fun y=>[]) (fun y=>[zI (rI .u32) (y.1) (y.2) (ya (a+b))]):=by
  have h:= @zmT p1 (ya a).length c1 (ya a) p2 (ya b).length c2 (ya b) rfl rfl hb1 hb2 (yq a) (yq b)
  rw [yB,yB,show ((a:Int)+(b:Int)).toNat=a+b by omega] at h
  exact h
theorem WA {x:Int}:CA 259 [.int .i64 x] [] (.bool false):=by
 refine zg Tryz.func259 rfl rfl (fun c=> ?_)
 refine jS 1 rfl<|Zp 4 rfl ?_
 exact zq rfl () trivial (zj rfl) (by simp) oN sN
theorem WB {x:Int}:CA 265 [.int .u32 x] [] (.bool false):=by
 refine zg Tryz.func265 rfl rfl (fun c=> ?_)
 refine jS 1 rfl<|Zp 4 rfl ?_
 exact zq rfl () trivial (zj rfl) (by simp) oN sN
theorem zbx {u:Int} {v:Int}:CA 230 [.int .i64 u,.int .i64 v] [] (.int .i64 (yx u v)):=by
 refine zg Tryz.func230 rfl rfl (fun c=> ?_)
 refine jS 1 rfl<|qJ rfl<|qg (qS rfl) zP WA (.n)<|jD 1 rfl<|qJ rfl<|qg (qS rfl) zP WA (.n)<|jn 1 rfl<|k12 1 rfl<|qW rfl<|vY<|k12 1 rfl<|qW rfl<|vY<|k12 3 rfl<|zx rfl (fun h1=> ?_) (fun h1=> ?_)
 refine Zn 1 rfl<|zD ?_
 exact zq rfl () trivial (zj rfl) (by rw [Big.KJ om]) oN sN
 refine vY<|k12 3 rfl<|zx rfl (fun h2=> ?_) (fun h2=> ?_)
 refine Zn 1 rfl<|zD ?_
 exact zq rfl () trivial (zj rfl) (by rw [Big.KK om]) oN sN
 refine k85 1 rfl ?_
 exact zq rfl () trivial (zj rfl) (by rw [show yx u v=0 by simp [yx];omega]) oN sN
theorem zgf {u:Int} {v:Int}:CA 260 [.int .u32 u,.int .u32 v] [] (.int .i64 (yx u v)):=by
 refine zg Tryz.func260 rfl rfl (fun c=> ?_)
 refine jS 1 rfl<|qJ rfl<|qg (qS rfl) zP WB (.n)<|jD 1 rfl<|qJ rfl<|qg (qS rfl) zP WB (.n)<|jn 1 rfl<|k12 1 rfl<|qW rfl<|vY<|k12 1 rfl<|qW rfl<|vY<|k12 3 rfl<|zx rfl (fun h1=> ?_) (fun h1=> ?_)
 refine Zn 1 rfl<|zD ?_
 exact zq rfl () trivial (zj rfl) (by rw [Big.KJ om]) oN sN
 refine vY<|k12 3 rfl<|zx rfl (fun h2=> ?_) (fun h2=> ?_)
 refine Zn 1 rfl<|zD ?_
 exact zq rfl () trivial (zj rfl) (by rw [Big.KK om]) oN sN
 refine k85 1 rfl ?_
 exact zq rfl () trivial (zj rfl) (by rw [show yx u v=0 by simp [yx];omega]) oN sN
theorem zcO (hn:l.length=n):zsb yh 220 [Vp b] [j8 b 0 [.slice p n cap],zI (rI .u32) p cap l] n (fun k=>[Vi k,.int .u32 (l.getD k 0)]):=by
 refine zhv Tryz.func220 rfl rfl rfl (fun l0 c X Y φ ψ OO RR OS RS H x0 a0=> ?_)
 refine zN 1 rfl (fun hL=> ?_)
 refine vg<|zw (zf (j:=0) 0 jQ rfl rfl rfl rfl)<|kS 1 rfl<|zE (qx rfl rfl w6)<|vZ 1 rfl<|zk<|zjd (X:=X×Nat) (fun z=>φ z.1 z.2∧z.2≤n) (fun z=>[(3,yas yat (((z.2:Nat):Int) - 1)),(1,Vp b),(0,.func (.yield l0) #[] #[])]) (fun z=>OO z.1) (fun z=>j8 b 0 [.slice p n cap] :: zI (rI .u32) p cap l :: RR z.1) (fun z=>z.2) (x0,n) ⟨a0,yF _⟩ (.c rfl (.c rfl (.c rfl .n))) (fun w m=>m) ?_
 rintro ⟨x,k⟩ ⟨hx,hk⟩
 dsimp only at hx hk
 refine qe<|k12 2 rfl<|zx rfl (fun h=> ?_) (fun h=> ?_)
 refine kk6 ?_
 obtain ⟨j,rfl⟩:∃j,k=j+1:=⟨k - 1,Oo⟩
 rw [show (((j+1:Nat):Int) - 1)=(j:Int) by omega]
 refine qe<|zk<|jK 2 rfl<|zw (zf (j:=0) 0 jQ rfl rfl rfl rfl)<|qJ rfl<|qH 1 j rfl yb qM rfl hn rfl rfl (gD (d:=0) om) (fun b2 o3 hok=> ?_) (x0:=l.getD j 0)
 refine zw (zf (j:=0) 0 vJ rfl rfl rfl rfl)<|zpk (X:=X) (Y:=Y) (φ:=fun x'=>φ x' j) (ψ:=ψ) (OO:=OO) (RR:=fun x'=>[j8 b 0 [.slice p n cap],zI (rI .u32) p cap l]++RR x') (OS:=OS) (RS:=RS) (vs:=[Vi j,.int .u32 (l.getD j 0)]) rfl rfl rfl (.c rfl (.c rfl .n)) (fun w m=>H x j w om hx (m.weaken fun h g s r a=>⟨h,g,s,r.2,Hp.le_refl _,Hp.le_refl _,a,fun _ _ e=> .inl e⟩)) (fun x' hx'=> ?_) (fun y hy=> ?_)
 refine zE (Zo rfl)<|Vc<|qW rfl<|qN<|zG<|zi<|vM 1 rfl<|zE (qx rfl rfl w6)<|qY 1 rfl ?_
 exact zpj (x',j) ⟨hx',by show j≤n;omega⟩ (by show j<j+1;omega) (.c rfl (.c rfl (.c rfl .n))) (fun w m=>m)
 refine zE (Zo rfl)<|Vc<|jl rfl<|vv<|qz<|zD<|zD<|qz ?_
 exact zfM rfl y hy (fun w m=>m)
 have a1:k=0:=Oo
 subst a1
 refine z7<|ze<|ze<|zn<|zsc ?_
 exact zfL rfl x hx (fun w m=>m)
theorem Kc {p:Option Addr} {n:Nat} {cap:Nat}:CB 156 [.slice p n cap] [] (Y:=Nat) (fun y=> .func (.func 220) #[] #[Vp y]) (fun y=>[j8 y 0 [.slice p n cap]]):=by
 refine zg Tryz.func156 rfl rfl (fun c=> ?_)
 refine vg<|zB (zX rfl rfl) (fun b1=> ?_)
 refine jD 1 rfl<|zE (v6 .n (.c rfl .n))<|Zp 1 rfl<|zkD 0 rfl .z ?_
 exact zq rfl b1 trivial (zj rfl) rfl oN (s0 rfl)
theorem KX {a:Nat} {b:Nat} {p1:Option Addr} {c1:Nat} {p2:Option Addr} {c2:Nat}:CA 231 [.slice p1 ((ya a).length) c1,.slice p2 ((ya b).length) c2] [zI (rI .u32) p1 c1 (ya a),zI (rI .u32) p2 c2 (ya b)] (.int .i64 (yx (a:Int) (b:Int))):=by
 refine WJ Tryz.func231 rfl rfl rfl (fun c=> ?_)
 refine zN 0 rfl (fun hL0=> ?_)
 refine zN 1 rfl (fun hL1=> ?_)
 refine vg<|zB (zX rfl rfl) (fun b1=> ?_)
 refine zB (zo zr3 rfl) (fun b2=> ?_)
 refine ZI<|jK 2 rfl<|zw (zc 1 jQ rfl rfl rfl)<|vZ 2 rfl<|zx rfl (fun hlen=> ?_) (fun hlen=> ?_)
 refine jK 2 rfl<|zw (zc 1 jQ rfl rfl rfl)<|kS 1 rfl<|qg (q7 rfl rfl) zP zbx (.n)<|zh 0 rfl rfl rfl rfl je (.take .nil) .z<|Va<|zD<|zjj ?_
 exact zq rfl () trivial (Js 0 v8 rfl rfl rfl) (by rw [Big.zew om]) oN sN
 replace hlen:(ya a).length=(ya b).length:=Oo
 refine vY<|jK 1 rfl<|zm (qS rfl) zP Kc (.n) ?_
 rintro b3 -
 refine Vc<|zk<|zel (fa:=[j8 b3 0 [.slice p1 ((ya a).length) c1],zI (rI .u32) p1 c1 (ya a)]) (N:=((ya a).length)) (encs:=fun k=>[Vi k,.int .u32 ((ya a).getD k 0)]) rfl zP (zcO J0) (fun _=>rfl) rfl (X:=Unit) (Y:=Unit) (fun x k=>k≤(ya a).length∧(ya a).drop k=(ya b).drop k) (fun y=>True) (fun x=>[zK b2 3 [.int .i64 0],zK b1 28 [.slice p2 ((ya b).length) c2]]) (fun x=>[zI (rI .u32) p2 c2 (ya b)]) (fun y=>[zK b2 3 [.int .i64 (yx (a:Int) (b:Int))],zK b1 28 [.slice p2 ((ya b).length) c2]]) (fun y=>[j8 b3 0 [.slice p1 ((ya a).length) c1],zI (rI .u32) p1 c1 (ya a),zI (rI .u32) p2 c2 (ya b)]) (fun k=>[(6,.int .u32 ((ya a).getD k 0)),(5,Vi k),(20,.int .u32 ((ya a).getD k 0)),(19,Vi k),(18,.func (.func 220) #[] #[Vp b3]),(17,.slice p1 ((ya a).length) c1),(11,.bool (decide ((((ya a).length:Nat):Int)≠(((ya b).length:Nat):Int)))),(10,Vi ((ya b).length)),(9,.slice p2 ((ya b).length) c2),(8,Vi ((ya a).length)),(7,.slice p1 ((ya a).length) c1),(4,Vp b2),(3,Vp b1),(0,.slice p1 ((ya a).length) c1),(1,.slice p2 ((ya b).length) c2)]) () (show ((ya a).length)≤(ya a).length∧(ya a).drop ((ya a).length)=(ya b).drop ((ya a).length) from by exact ⟨yF _,by rw [List.drop_length,hlen,List.drop_length]⟩) ((.of [0,0] rfl):zJ _ _ _) ((.of [0,1,2] rfl)) ?_ ?_ ?_ ?_
 intro l k O' R' Q' hP
 refine k12 1 rfl<|k2n 1 rfl ?_
 exact hP
 rintro l4 D5 o6 o7 ⟨⟩ k hkN hI
 have hg1:=yp (yq a) k
 have hg2:=yp (yq b) k
 refine zk<|jK 1 rfl<|zw (zc 3 jQ rfl rfl rfl)<|qJ rfl<|qH 2 k rfl yb qM rfl J0 rfl rfl (gD (d:=0) om) (fun b8 o9 a0=> ?_) (x0:=((ya b).getD k 0))
 replace a0:=zO.1 a0
 refine zw (zf (j:=0) 0 vJ rfl rfl rfl rfl)<|vZ 1 rfl<|zx rfl (fun hne=> ?_) (fun hne=> ?_)
 refine jK 1 rfl<|zw (zc 3 jQ rfl rfl rfl)<|qJ rfl<|qH 3 k rfl yb qM rfl J0 rfl rfl (gD (d:=0) om) (fun b11 o12 a1=> ?_) (x0:=((ya b).getD k 0))
 replace a1:=zO.1 a1
 refine zw (zf (j:=0) 0 vJ rfl rfl rfl rfl)<|qg (q7 rfl rfl) zP zgf (.n)<|zh 2 rfl rfl rfl rfl je (.take .nil) (.s (.s .z))<|Va<|qz ?_
 exact zfN () (show True from by first|trivial|omega) ((.c (i:=0) rfl (.c (i:=0) rfl (.e (i:=0) rfl (by rw [Big.zhH hlen om hI.2 hne]) (.c (i:=0) rfl .n)))):zJ _ _ _) ((.of [2,3,4] rfl))
 refine qN<|zG ?_
 exact zek () (show k≤(ya a).length∧(ya a).drop k=(ya b).drop k from by exact ⟨Oo,Big.zdG om om hI.2 (yK.1 hne)⟩) ((.of [0,0,0,0] rfl):zJ _ _ _) ((.of [1,2,3] rfl))
 rintro D14 ⟨⟩ hI
 have heq:(ya a)=(ya b):=by simpa using hI.2
 have hab:=Big.cmp_eq heq
 refine zG<|zi<|vg<|zh 1 rfl rfl rfl rfl je (.take .nil) (.s .z)<|Va<|zem 0 rfl rfl ?_
 exact zq rfl () trivial (Js 0 v8 rfl rfl rfl) (by rw [hab];simp [yx]) oN sN
 rintro D15 ⟨⟩ hS
 refine qz<|zD<|zem 0 rfl rfl ?_
 exact zq rfl () trivial (Js 0 v8 rfl rfl rfl) rfl oN sN
theorem zhY {g:Int}:CA 229 [.int .u32 g] [] (.bool (decide (1000000000≤g))):=by
 refine zg Tryz.func229 rfl rfl (fun c=> ?_)
 refine jS 1 rfl<|Zp 3 rfl ?_
 exact zq rfl () trivial (zj rfl) rfl oN sN
theorem zcP {p:Option Addr} {n:Nat} {cap:Nat} {l:List Int} (hn:l.length=n):CC 258 [.slice p n cap,.func (.func 229) #[] #[]] [zI (rI .u32) p cap l] (Y:=Int) (fun y=>(0≤y↔∃g∈l,1000000000≤g)) (fun y=> .int .i64 y) (fun y=>[]):=by
 refine zg Tryz.func258 rfl rfl (fun c=> ?_)
 refine zN 0 rfl (fun hL0=> ?_)
 refine jg 1 rfl<|k12 3 rfl<|zk<|z5 (X:=Nat) (fun x=>x≤n∧∀j,j<x→l.getD j 0<1000000000) (fun x=>[(8,Vi x)]) [7,0,1] (fun x=>[]) (fun x=>[]) [0] (fun x=>n - x) 0 (by exact ⟨Oo,fun j h=>by omega⟩) (.e rfl vA .n) oN sN ?_
 rintro i hI
 obtain ⟨hi,hall⟩:=hI
 refine jg 1 rfl<|zx rfl (fun h1=> ?_) (fun h1=> ?_)
 refine vY<|zk<|jS 2 rfl<|kS 3 rfl<|qH 0 i rfl yb qM rfl J0 rfl rfl (gD (d:=0) om) (fun b2 o3 a0=> ?_) (x0:=(l.getD i 0))
 replace a0:=zO.1 a0
 refine zw (zf (j:=0) 0 vJ rfl rfl rfl rfl)<|ZP rfl (.c rfl .n) zP zhY (.n) (first:=[]) (cap:=[]) ?_
 rintro ⟨⟩ -
 refine Vc<|zx rfl (fun hb=> ?_) (fun hb=> ?_)
 refine Zn 2 rfl<|qz<|zD<|zD<|qz<|zD ?_
 exact zq rfl ((i:Nat):Int) (⟨fun _=>⟨l.getD i 0,Big.getD_mem om,hb⟩,fun _=>by omega⟩) (zj rfl) rfl oN sN
 refine qN<|zG<|zi<|zv<|zE (qj rfl rfl)<|qY 1 rfl<|zW (i+1) (by refine ⟨Oo,fun j hj=> ?_⟩;by_cases e:j=i;subst e;omega;exact hall j om) om (mR rfl) oN ((.c (j:=1) rfl .n))
 refine z7<|ze<|ze<|zn<|zi<|Zn 1 rfl ?_
 exact zq rfl (-1) (⟨fun h=>by omega,fun ⟨g,hg,hb⟩=>by obtain ⟨j,hj,e⟩:=Big.zfZ hg;have:=hall j om;omega⟩) (zj rfl) rfl oN sN
theorem zar {p:Option Addr} {n:Nat} {cap:Nat} {l:List Int} (hn:l.length=n):CA 228 [.slice p n cap,.func (.func 229) #[] #[]] [zI (rI .u32) p cap l] (.bool (decide (∃g∈l,1000000000≤g))):=by
 refine zg Tryz.func228 rfl rfl (fun c=> ?_)
 refine zN 0 rfl (fun hL0=> ?_)
 refine jS 1 rfl<|kS 2 rfl<|zm (q7 rfl rfl) zP (zcP qB) (qX 0 rfl) ?_
 rintro r1 hr
 refine Zp 2 rfl ?_
 exact zq rfl () trivial (zj rfl) (congrArg Value.bool (decide_eq_decide.2 hr.symm)) oN sN
theorem Wk {s:Bool} {p:Option Addr} {n:Nat} {cap:Nat} {l:List Int} (hn:l.length=n):CA 170 [.agg #[.bool s,.slice p n cap]] [zI (rI .u32) p cap l] (.bool (decide (yA s l))):=by
 refine zg Tryz.func170 rfl rfl (fun c=> ?_)
 refine zN 0 rfl (fun hL0=> ?_)
 refine vg<|zB (zX rfl rfl) (fun b1=> ?_)
 refine jD 1 rfl<|zE (zb yf rfl Zu rfl rfl)<|zw (zc 0 jQ rfl rfl rfl)<|jn 2 rfl<|k12 2 rfl<|zx rfl (fun h0=> ?_) (fun h0=> ?_)
 refine vg<|zE (zb yf rfl Jn rfl rfl)<|zw (zc 0 J5 rfl rfl rfl)<|zE (Zo rfl)<|Zp 1 rfl<|zD ?_
 exact zq rfl () trivial (zj rfl) (congrArg Value.bool (by have:l.length=0:=om;cases s <;> simp [yA,this])) oN sN
 refine kk6<|ji (X:=Unit) (fun x=>True) (fun x=>[(2,.bool (decide (((l.getD ((((n:Nat):Int) - 1).toNat) 0)≠0)∧(¬(∃g∈l,1000000000≤g)))))]) (fun x=>[]) (fun x=>[]) ?_ ?_
 refine zv<|zE (zb yf rfl Zu rfl rfl)<|zw (zc 0 jQ rfl rfl rfl)<|qJ rfl<|zE (qx rfl rfl w6)<|qH 0 ((((n:Nat):Int) - 1).toNat) rfl yb qM rfl J0 rfl om (gD (d:=0) om) (fun b2 o3 a0=> ?_) (x0:=(l.getD ((((n:Nat):Int) - 1).toNat) 0))
 replace a0:=zO.1 a0
 refine zw (zf (j:=0) 0 vJ rfl rfl rfl rfl)<|kS 1 rfl<|q8 (qU rfl) (fun h5=> ?_) (fun h5=> ?_)
 refine zE (zb yf rfl Zu rfl rfl)<|zw (zc 0 jQ rfl rfl rfl)<|qg (q7 rfl rfl) zP (zar qB) (qX 1 rfl)<|zE (Jr rfl)<|qY 2 rfl ?_
 exact qL () Qn ((.e rfl (congrArg Value.bool (by simp_all)) .n)) oN sN
 refine qY 6 rfl ?_
 exact qL () Qn ((.e rfl (congrArg Value.bool (by simp_all)) .n)) oN sN
 rintro ⟨⟩ -
 refine vv ?_
 exact zq rfl () trivial (zj rfl) (congrArg Value.bool (decide_eq_decide.2 (by rw [Big.WO om,hn];have e:((n:Int) - 1).toNat=n - 1:=om;simp [e]))) oN sN
theorem zhZ :jI yh 170 [.agg #[.bool (decide ((z)<0)),.slice (p) ((ya ((z).natAbs)).length) (cap)]] [] [zI (rI .u32) (p) (cap) (ya ((z).natAbs))] (Y:=Unit) (fun y=>True) (fun y=> .bool true) (fun y=>[]) (fun y=>[]):=by
  have h:= @Wk (decide ((z)<0)) p (ya (z).natAbs).length cap (ya (z).natAbs) rfl
  rw [decide_eq_true (Big.Ja z)] at h
  exact h
theorem zcQ :jI yh 170 [.agg #[w1.b,w1.l]] [] [zF w1 (x1)] (Y:=Unit) (fun y=>True) (fun y=> .bool true) (fun y=>[]) (fun y=>[]):=by
  exact WP (fun p c=>zhZ)
theorem j7 {s:Bool} {p:Option Addr} {n:Nat} {cap:Nat} {l:List Int} (hn:l.length=n):CB 155 [.agg #[.bool s,.slice p n cap]] [zI (rI .u32) p cap l] (Y:=(Option Addr)×Nat) (fun y=> .slice (y.1) ((ya ((yg s l).natAbs)).length) (y.2)) (fun y=>[zI (rI .u32) (y.1) (y.2) (ya ((yg s l).natAbs))]):=by
 refine zg Tryz.func155 rfl rfl (fun c=> ?_)
 refine zN 0 rfl (fun hL0=> ?_)
 refine jZ 0 rfl (fun a0=> ?_)
 have hnn:yr l:=fun g hg=>(zO.1 (a0 g hg)).1
 refine vg<|zB (zX rfl rfl) (fun b1=> ?_)
 refine jn 1 rfl<|vg<|zw (za 0 z4 rfl rfl (.t2 .nil))<|qg (qS rfl) zP (Wk qB) (qX 0 rfl)<|zE (Jr rfl)<|Vc<|zx rfl (fun hc=> ?_) (fun hc=> ?_)
 refine Zn 1 rfl<|zD ?_
 have hd:ya (yg s l).natAbs=[]:=by rw [Big.QB hnn,if_neg hc]
 refine QR (rI .u32) ?_
 exact zq rfl (none,0) trivial (zj rfl) (by rw [hd];rfl) oN ((.e (j:=0) rfl (by rw [hd]) .n))
 refine kk8<|zE (zb yf rfl Zu rfl rfl)<|zw (zc 0 jQ rfl rfl rfl)<|Zp 1 rfl ?_
 have hd:ya (yg s l).natAbs=l:=by rw [Big.QB hnn,if_pos (yK.1 hc)]
 exact zq rfl (p,cap) trivial (zj rfl) (by rw [hd,hn]) oN ((.e (j:=0) rfl (by rw [hd]) .n))
theorem Jx :jI yh 155 [.agg #[.bool (decide ((z)<0)),.slice (p) ((ya ((z).natAbs)).length) (cap)]] [] [zI (rI .u32) (p) (cap) (ya ((z).natAbs))] (Y:=(Option Addr)×(Nat)) (fun y=>True) (fun y=> .slice (y.1) ((ya ((z).natAbs)).length) (y.2)) (fun y=>[]) (fun y=>[zI (rI .u32) (y.1) (y.2) (ya ((z).natAbs))]):=by
  have h:= @j7 (decide ((z)<0)) p (ya (z).natAbs).length cap (ya (z).natAbs) rfl
  rw [yw] at h
  exact h
theorem zmU {s:Bool} {p:Option Addr} {n:Nat} {cap:Nat} {l:List Int} (hn:l.length=n) (ho:Big.Qk l):CB 208 [.bool s,.slice p n cap] [zI (rI .u32) p cap l] (Y:=(Option Addr)×Nat) (fun y=> .agg #[.bool (decide ((yk s (yj l))<0)),.slice (y.1) ((ya ((yk s (yj l)).natAbs)).length) (y.2)]) (fun y=>[zI (rI .u32) (y.1) (y.2) (ya ((yk s (yj l)).natAbs))]):=by
 refine zg Tryz.func208 rfl rfl (fun c=> ?_)
 refine zN 0 rfl (fun hL0=> ?_)
 have htr:yv l=ya (yk s (yj l)).natAbs:=by rw [Big.KI (Big.qV ho),Big.QO ho]
 refine vg<|zB (zo jo rfl) (fun b1=> ?_)
 refine k40 1 rfl<|zm (qS rfl) zP (Jh qB) (qX 0 rfl) ?_
 rintro ⟨⟩ -
 refine jn 1 rfl<|k12 3 rfl<|zx rfl (fun h0=> ?_) (fun h0=> ?_)
 refine vg<|zE (qr jo rfl yf (.c Jn (.c Zu .n)) .n .n)<|zh 0 rfl rfl rfl rfl z8 (.t2 .nil) .z<|Va<|zD ?_
 have hz:yj l=0:=Big.zkO ho om
 refine QR (rI .u32) ?_
 exact zq rfl (none,0) trivial (zy 0 z4 rfl rfl (.t2 .nil)) (by rw [hz,Big.zah];rfl) oN ((.e (j:=0) rfl (by rw [hz,Big.zah];rfl) .n))
 refine k80 2 rfl<|zE (qr jo rfl yf (.c Jn (.c Zu .n)) (.c rfl (.c rfl .n)) (.c rfl rfl rfl (.take .nil) (.c rfl rfl rfl (.skip (.take .nil)) .n)))<|zh 0 rfl rfl rfl rfl z8 (.t2 .nil) .z<|Va ?_
 have hp:0<yj l:=Big.zmi ho (fun e=>h0 (by rw [e];rfl))
 exact zq rfl (p,cap) trivial (zy 0 z4 rfl rfl (.t2 .nil)) (by rw [Big.zhF hp,htr]) oN ((.e (j:=0) rfl (by rw [htr]) .n))
theorem jG :jI yh 208 [.bool (s),.slice (p) ((ya (a)).length) (cap)] [] [zI (rI .u32) (p) (cap) (ya (a))] (Y:=(Option Addr)×(Nat)) (fun y=>True) (fun y=> .agg #[.bool (decide ((yk s (a:Int))<0)),.slice (y.1) ((ya ((yk s (a:Int)).natAbs)).length) (y.2)]) (fun y=>[]) (fun y=>[zI (rI .u32) (y.1) (y.2) (ya ((yk s (a:Int)).natAbs))]):=by
  have h:= @zmU s p (ya a).length cap (ya a) rfl (yq a)
  rw [yB] at h
  exact h
theorem VY {n0:Nat} (hn0:n0<18446744073709551616):CB 209 [.int .u64 ((n0:Nat):Int)] [] (Y:=(Option Addr)×Nat) (fun y=> .slice (y.1) ((ya n0).length) (y.2)) (fun y=>[zI (rI .u32) (y.1) (y.2) (ya n0)]):=by
 refine zg Tryz.func209 rfl rfl (fun c=> ?_)
 refine jS 1 rfl<|jn 1 rfl<|zk<|Zj 133 (rI .u32)<|Qr (X:=Nat×(Option Addr)×Nat×(List Int)) (fun x=>x.1≤n0∧x.2.2.2++ya x.1=ya n0) (fun x=>[(3,.slice (x.2.1) (x.2.2.2.length) (x.2.2.1)),(0,.int .u64 ((x.1:Nat):Int))]) (fun x=>[rowA 133 (rI .u32) (x.2.1) (x.2.2.1) (x.2.2.2)]) (fun x=>[]) (fun x=>x.1) (n0,none,0,[]) (by exact ⟨yF _,rfl⟩) ((.e rfl vA (.c rfl .n))) (o0 rfl) sN ?_
 rintro ⟨n,p,c,os⟩ hI
 dsimp only at hI
 try dsimp only
 obtain ⟨hnn,hos⟩:=hI
 have hlen:os.length+(ya n).length≤3:=by have:=congrArg List.length hos;rw [yal] at this;have:=Big.zhI hn0;omega
 refine qe<|k12 2 rfl<|zx rfl (fun hc=> ?_) (fun hc=> ?_)
 refine qN<|zi<|qe<|zk<|vM 2 rfl<|zE (jk (z:=(((n%1000000000):Nat):Int)) rfl rfl om (KG om om))<|zE (zY (z:=(((n%1000000000):Nat):Int)) rfl (by rw [ye];rfl) yd (ZU om))<|Zy rfl rfl (z6 (enc:=fun z:Int=>[.int .u32 z]) (ok:=Vb .u32) (h1:=fun _=>rfl) (h2:=fun _=>rfl) (k:=1) yb vB rfl dd dd dd (.c (x:=(((n%1000000000):Nat):Int)) rfl rfl (fun _ _=>by exact zO.2 om) .n)) (fun b1 _=> ?_)
 refine qt 0 rfl .z<|Zz 1 rfl rfl rfl (qT 0 rfl yb vB dd rfl rfl J0 rfl J0 om om) (fun _=>(.s .z)) ?_
 rintro ⟨p2,c3⟩ -
 refine qY 1 rfl<|zG<|zi<|vM 1 rfl<|zE (Z6 (z:=(((n / 1000000000):Nat):Int)) rfl rfl om (by rw [KF (z:=(((n / 1000000000):Nat):Int)) om om];exact vu om))<|qY 1 rfl<|zW ((n / 1000000000),p2,c3,os++[((n%1000000000:Nat):Int)]) (by exact ⟨Oo,Big.zcw om hos⟩) om ((.e rfl (by simp) (.c rfl .n))) ((.e (i:=1) rfl vA .n):zJ _ _ _) sN
 refine z7<|ze<|ze<|zn<|zi<|Zn 2 rfl ?_
 have hz:n=0:=Oo
 subst hz
 have hd:os=ya n0:=by simpa [Big.jE] using hos
 refine vK 0 rfl .z ?_
 exact zq rfl (p,c) trivial (zj rfl) (by rw [hd]) oN ((.e (j:=0) rfl (by rw [hd]) .n))
theorem zmV {z:Int} (hz: -9223372036854775808≤z∧z≤9223372036854775807):CB 130 [.int .i64 z] [] (Y:=(Option Addr)×Nat) (fun y=> .agg #[.bool (decide (z<0)),.slice (y.1) ((ya ((z).natAbs)).length) (y.2)]) (fun y=>[zI (rI .u32) (y.1) (y.2) (ya ((z).natAbs))]):=by
 refine zg Tryz.func130 rfl rfl (fun c=> ?_)
 refine vg<|zB (zo jo rfl) (fun b1=> ?_)
 refine k40 1 rfl<|zE (zY (z:=(z%18446744073709551616)) rfl (by rw [Tryz.underlying3];rfl) ye (zlV om))<|jn 1 rfl<|k12 2 rfl<|zx rfl (fun hs=> ?_) (fun hs=> ?_)
 refine vM 1 rfl<|zE (JD (z:=((z.natAbs:Nat):Int)) rfl (zlV om))<|jD 1 rfl<|kS 3 rfl<|zm (qS rfl) zP (VY om) (.n) ?_
 rintro ⟨p22,c23⟩ -
 refine zm (q7 rfl rfl) zP jG (qX 0) ?_
 rintro ⟨a0,a1⟩ -
 refine zh 0 rfl rfl rfl rfl z8 (.t2 .nil) .z<|Va ?_
 have hsg:yk (decide (z<0)) (z.natAbs:Int)=z:=Big.za1 z
 exact zq rfl (a0,a1) trivial (zy 0 z4 rfl rfl (.t2 .nil)) (by rw [hsg]) oN ((.e (j:=0) rfl (by rw [hsg]) .n))
 have e6:((z%18446744073709551616):Int)=((z.natAbs:Nat):Int):=Oo
 rw [e6]
 refine k80 3 rfl<|zm (qS rfl) zP (VY om) (.n) ?_
 rintro ⟨p27,c28⟩ -
 refine zm (q7 rfl rfl) zP jG (qX 0) ?_
 rintro ⟨a2,a3⟩ -
 refine zh 0 rfl rfl rfl rfl z8 (.t2 .nil) .z<|Va ?_
 have hsg:yk (decide (z<0)) (z.natAbs:Int)=z:=Big.za1 z
 exact zq rfl (a2,a3) trivial (zy 0 z4 rfl rfl (.t2 .nil)) (by rw [hsg]) oN ((.e (j:=0) rfl (by rw [hsg]) .n))
theorem jL (hz: -9223372036854775808≤z∧z≤9223372036854775807):jI yh 130 [yas yat (z)] [] [] (Y:=(Wd)) (fun y=>True) (fun y=> .agg #[y.b,y.l]) (fun y=>[]) (fun y=>[zF y (z)]):=by
  exact Vn (zmV hz)
theorem za9 {a:Nat} {b:Nat} {p1:Option Addr} {c1:Nat} {p2:Option Addr} {c2:Nat} (hb1:(ya a).length≤4398046511104) (hb2:(ya b).length≤4398046511104) (hab:b≤a):CB 223 [.slice p1 ((ya a).length) c1,.slice p2 ((ya b).length) c2] [zI (rI .u32) p1 c1 (ya a),zI (rI .u32) p2 c2 (ya b)] (Y:=(Option Addr)×Nat) (fun y=> .slice (y.1) ((ya (a - b)).length) (y.2)) (fun y=>[zI (rI .u32) (y.1) (y.2) (ya (a - b))]):=by
 refine zg Tryz.func223 rfl rfl (fun c=> ?_)
 refine zN 0 rfl (fun hL0=> ?_)
 refine zN 1 rfl (fun hL1=> ?_)
 refine jS 1 rfl<|kS 2 rfl<|qZ (vS (r:=rI .u32) (k:=(ya a).length) (x0:=0) (γ0:=()) yb vB rfl rfl rfl rfl om om rfl (fun g _=>by exact zO.2 dd) dd) (fun b1 _=> ?_)
 refine jD 1 rfl<|jn 1 rfl<|k12 3 rfl<|zk<|z5 (X:=Nat×(List Int)×Int) (fun x=>x.1≤(ya a).length∧x.2.1.length=x.1∧0≤x.2.2∧x.2.2≤1∧Big.Qk x.2.1∧yj x.2.1+yj ((ya b).take x.1)=yj ((ya a).take x.1)+Big.pw x.1*x.2.2) (fun x=>[(6,.int .u32 (x.2.2)),(14,Vi x.1)]) [13,5,4,0,1] (fun x=>[rowA 133 (rI .u32) (Sb b1) ((ya a).length) (x.2.1++yI ((ya a).length - x.1) 0)]) (fun x=>[]) [0,1] (fun x=>(ya a).length - x.1) (0,[],0) (by exact ⟨Oo,rfl,Od,Od,Big.QU,by simp [yj]⟩) (.c rfl (.e rfl vA .n)) ((.e (i:=0) rfl (by simp) .n):zJ _ _ _) sN ?_
 rintro ⟨i,os,bo⟩ hI
 dsimp only at hI
 try dsimp only
 obtain ⟨hi,hol,a3,hc1,hok,hv⟩:=hI
 have hg1:=yp (yq a) i
 have hg2:=yp (yq b) i
 refine jg 1 rfl<|zx rfl (fun h2=> ?_) (fun h2=> ?_)
 refine qN<|zi<|qe<|zk<|jS 2 rfl<|kS 2 rfl<|VG rfl rfl (.c rfl (.c rfl .n)) zP (zeP Kw Kw) (.c (j:=1) rfl .n) ?_
 refine qJ rfl<|zE (qm (z:=((ya b).getD i 0+bo)) rfl rfl (ZU om))<|jD 1 rfl<|jD 1 rfl<|kS 2 rfl<|QL (x0:=((ya a).getD i 0)) 0 i rfl yb qM rfl rfl rfl (by first|rfl|assumption|(simp;omega)) rfl rfl (gD (d:=0) om) (fun b3 o4 a0=> ?_)
 replace a0:=zO.1 a0
 refine zw (zf (j:=0) 0 vJ rfl rfl rfl rfl)<|vZ 2 rfl<|zx rfl (fun hc=> ?_) (fun hc=> ?_)
 refine vM 4 rfl<|qH 1 i rfl yb qM rfl zL rfl rfl (gD (d:=0) om) (fun b6 o7 a1=> ?_) (x0:=((ya a).getD i 0))
 replace a1:=zO.1 a1
 refine zw (zf (j:=0) 0 vJ rfl rfl rfl rfl)<|zE (qm (z:=(((ya a).getD i 0)+1000000000)) rfl rfl (ZU om))<|qJ rfl<|zE (qx (z:=((((ya a).getD i 0)+1000000000) - ((ya b).getD i 0+bo))) rfl rfl (ZU om))<|zE (zZ (j:=i) yb qM rfl rfl rfl om)<|vO 0 rfl (qh (j:=i) (x0:=((((ya a).getD i 0)+1000000000) - ((ya b).getD i 0+bo))) (γ0:=()) rfl rfl (by first|omega|(rw [yN];omega)|(simp only [yM];omega)|(simp;done)|(simp;omega)) rfl rfl qM (fun _ _=>by exact zO.2 om)) (fun _=> .z) (fun _ _=> ?_)
 refine qY 1 rfl<|zG<|zi<|zv<|zE (qj rfl rfl)<|qY 1 rfl<|zW ((i+1),os++[(ya a).getD i 0+1000000000 - ((ya b).getD i 0+bo)],1) (by dsimp only;exact ⟨Oo,by simp [hol],Od,Od,Big.Qz hok om om,Big.WN hol hv om⟩) (by dsimp only;omega) (mR rfl) (ho:=((.e (i:=0) rfl (by rw [Big.zbS hol om]) .n):zJ _ _ _)) ((.of [2,3] rfl):q9 _ _ _)
 refine vM 4 rfl<|qH 1 i rfl yb qM rfl zL rfl rfl (gD (d:=0) om) (fun b9 o10 a2=> ?_) (x0:=((ya a).getD i 0))
 replace a2:=zO.1 a2
 refine zw (zf (j:=0) 0 vJ rfl rfl rfl rfl)<|qJ rfl<|zE (qx (z:=(((ya a).getD i 0) - ((ya b).getD i 0+bo))) rfl rfl (ZU om))<|zE (zZ (j:=i) yb qM rfl rfl rfl om)<|vO 0 rfl (qh (j:=i) (x0:=(((ya a).getD i 0) - ((ya b).getD i 0+bo))) (γ0:=()) rfl rfl (by first|omega|(rw [yN];omega)|(simp only [yM];omega)|(simp;done)|(simp;omega)) rfl rfl qM (fun _ _=>by exact zO.2 om)) (fun _=> .z) (fun _ _=> ?_)
 refine jq<|zG<|zi<|zv<|zE (qj rfl rfl)<|qY 1 rfl<|zW ((i+1),os++[(ya a).getD i 0 - ((ya b).getD i 0+bo)],0) (by dsimp only;exact ⟨Oo,by simp [hol],Od,Od,Big.Qz hok om om,Big.WN hol hv om⟩) (by dsimp only;omega) (mR rfl) (ho:=((.e (i:=0) rfl (by rw [Big.zbS hol om]) .n):zJ _ _ _)) ((.of [2,3] rfl):q9 _ _ _)
 have a4:os++yI ((ya a).length - i) 0=os:=by rw [show (ya a).length - i=0 by omega];simp
 rw [a4]
 have htr:yv os=ya (a - b):=Big.zdF hab hok a3 hol om hv
 refine z7<|ze<|ze<|zn<|zi<|jK 1 rfl<|qt 0 rfl .z<|zm (qS rfl) zP (Jh Kw) (qX 0 rfl) ?_
 rintro ⟨⟩ -
 refine Zp 1 rfl ?_
 exact zq rfl ((Sb b1),((ya a).length)) trivial (zj rfl) (by rw [htr]) oN ((.e (j:=0) rfl (by rw [htr]) .n))
theorem zjL {s:Bool} {t:Bool} {a:Nat} {b:Nat} {p1:Option Addr} {c1:Nat} {p2:Option Addr} {c2:Nat} (hb1:(ya a).length≤4398046511104) (hb2:(ya b).length≤4398046511104):CB 215 [.bool s,.slice p1 ((ya a).length) c1,.bool t,.slice p2 ((ya b).length) c2] [zI (rI .u32) p1 c1 (ya a),zI (rI .u32) p2 c2 (ya b)] (Y:=(Option Addr)×Nat) (fun y=> .agg #[.bool (decide ((yk s (a:Int)+yk t (b:Int))<0)),.slice (y.1) ((ya ((yk s (a:Int)+yk t (b:Int)).natAbs)).length) (y.2)]) (fun y=>[zI (rI .u32) (y.1) (y.2) (ya ((yk s (a:Int)+yk t (b:Int)).natAbs))]):=by
 refine zg Tryz.func215 rfl rfl (fun c=> ?_)
 refine zN 0 rfl (fun hL0=> ?_)
 refine zN 1 rfl (fun hL1=> ?_)
 refine vg<|zB (zo jo rfl) (fun b1=> ?_)
 refine ZI<|zk<|jK 2 rfl<|zE (zbp yn rfl rfl)<|vZ 1 rfl<|zx rfl (fun hst=> ?_) (fun hst=> ?_)
 refine jK 3 rfl<|zm (q7 rfl rfl) zP (zdW qB qB) (vj 0 1) ?_
 rintro ⟨p32,c33⟩ -
 refine zm (q7 rfl rfl) zP jG (qX 0) ?_
 rintro ⟨a0,a1⟩ -
 refine zh 0 rfl rfl rfl rfl z8 (.t2 .nil) .z<|Va<|qz<|zD ?_
 have hz:yk s ((a+b:Nat):Int)=yk s (a:Int)+yk t (b:Int):=by rw [← hst];unfold yk;split <;> omega
 exact zq rfl (a0,a1) trivial (zy 0 z4 rfl rfl (.t2 .nil)) (by rw [hz]) oN ((.e (j:=0) rfl (by rw [hz]) .n))
 refine jK 2 rfl<|qg (q7 rfl rfl) zP KX (vj 0 1)<|vZ 2 rfl<|zx rfl (fun hcmp=> ?_) (fun hcmp=> ?_)
 have hab:b≤a:=by have:=Big.JH.1 hcmp;omega
 refine jK 3 rfl<|zm (q7 rfl rfl) zP (za9 qB qB Kw) (vj 0 1) ?_
 rintro ⟨p36,c37⟩ -
 refine zm (q7 rfl rfl) zP jG (qX 0) ?_
 rintro ⟨a2,a3⟩ -
 refine zh 0 rfl rfl rfl rfl z8 (.t2 .nil) .z<|Va<|qz<|zD ?_
 have hz:yk s ((a - b:Nat):Int)=yk s (a:Int)+yk t (b:Int):=by revert hst;unfold yk;cases s <;> cases t <;> simp <;> omega
 exact zq rfl (a2,a3) trivial (zy 0 z4 rfl rfl (.t2 .nil)) (by rw [hz]) oN ((.e (j:=0) rfl (by rw [hz]) .n))
 have hab:a≤b:=by have:¬(b:Int)≤a:=fun h=>hcmp (Big.JH.2 h);omega
 refine qN<|zG<|zi<|jK 3 rfl<|zm (q7 rfl rfl) zP (za9 qB qB Kw) (vj 1 0) ?_
 rintro ⟨a6,a7⟩ -
 refine zm (q7 rfl rfl) zP jG (qX 0) ?_
 rintro ⟨a4,a5⟩ -
 refine zh 0 rfl rfl rfl rfl z8 (.t2 .nil) .z<|Va ?_
 have hz:yk t ((b - a:Nat):Int)=yk s (a:Int)+yk t (b:Int):=by revert hst;unfold yk;cases s <;> cases t <;> simp <;> omega
 exact zq rfl (a4,a5) trivial (zy 0 z4 rfl rfl (.t2 .nil)) (by rw [hz]) oN ((.e (j:=0) rfl (by rw [hz]) .n))
theorem zdX {a:Nat} {b:Nat} {p1:Option Addr} {c1:Nat} {p2:Option Addr} {c2:Nat} (hb1:(ya a).length≤4398046511104) (hb2:(ya b).length≤4398046511104):CB 214 [.slice p1 ((ya a).length) c1,.slice p2 ((ya b).length) c2] [zI (rI .u32) p1 c1 (ya a),zI (rI .u32) p2 c2 (ya b)] (Y:=(Option Addr)×Nat) (fun y=> .slice (y.1) ((ya (a*b)).length) (y.2)) (fun y=>[zI (rI .u32) (y.1) (y.2) (ya (a*b))]):=by
 refine zg Tryz.func214 rfl rfl (fun c=> ?_)
 refine zN 0 rfl (fun hL0=> ?_)
 refine zN 1 rfl (fun hL1=> ?_)
 have hoa:=yq a
 have hob:=yq b
 refine jS 1 rfl<|kS 4 rfl<|zE (qm rfl rfl w6)<|qZ (vS (r:=rI .u32) (k:=(((ya a).length)+((ya b).length))) (x0:=0) (γ0:=()) yb vB rfl rfl rfl rfl om om rfl (fun g _=>by exact zO.2 dd) dd) (fun b1 _=> ?_)
 refine jn 1 rfl<|k12 3 rfl<|zk<|z5 (X:=Nat×(List Int)) (fun x=>x.1≤(ya a).length∧x.2.length=(ya a).length+(ya b).length∧Big.Qk x.2∧(∀k,x.1+(ya b).length≤k→x.2.getD k 0=0)∧yj x.2=yj ((ya a).take x.1)*yj (ya b)) (fun x=>[(20,Vi x.1)]) [19,18,5,1] (fun x=>[rowA 133 (rI .u32) (Sb b1) (((ya a).length)+((ya b).length)) (x.2)]) (fun x=>[]) [0,1] (fun x=>(ya a).length - x.1) (0,yI ((ya a).length+(ya b).length) 0) (by exact ⟨Oo,by simp,Big.za0 _,fun k _=>Big.WK _ k,by simp [Big.J6,yj]⟩) (.e rfl vA .n) ((.e (i:=0) rfl vA .n):zJ _ _ _) sN ?_
 rintro ⟨i,os⟩ hI
 dsimp only at hI
 obtain ⟨hi,hol,hok,hz,hv⟩:=hI
 have a8:=yp hoa i
 refine jg 1 rfl<|zx rfl (fun h2=> ?_) (fun h2=> ?_)
 refine vY<|zk<|jK 1 rfl<|qH 0 i rfl yb qM rfl zL rfl rfl (gD (d:=0) om) (fun b3 o4 a3=> ?_) (x0:=((ya a).getD i 0))
 replace a3:=zO.1 a3
 refine zw (zf (j:=0) 0 vJ rfl rfl rfl rfl)<|jD 2 rfl<|jn 1 rfl<|k12 3 rfl<|zk<|Qr (X:=Nat×(List Int)×Int) (fun x:Nat×(List Int)×Int=>x.1≤(ya b).length∧x.2.1.length=(ya a).length+(ya b).length∧Big.Qk x.2.1∧0≤x.2.2∧x.2.2<1000000000∧(∀k,i+(ya b).length≤k→x.2.1.getD k 0=0)∧yj x.2.1+Big.pw (i+x.1)*x.2.2=yj ((ya a).take i)*yj (ya b)+Big.pw i*(ya a).getD i 0*yj ((ya b).take x.1)) (fun x=>[(8,.int .u64 (x.2.2)),(27,Vi x.1),(26,Vi ((ya b).length)),(25,.slice p2 ((ya b).length) c2),(7,.int .u32 ((ya a).getD i 0)),(6,Vi i),(20,Vi i),(19,Vi ((ya a).length)),(18,.slice p1 ((ya a).length) c1),(5,.slice (Sb b1) (((ya a).length)+((ya b).length)) (((ya a).length)+((ya b).length))),(1,.slice p2 ((ya b).length) c2)]) (fun x=>[rowA 133 (rI .u32) (Sb b1) (((ya a).length)+((ya b).length)) (x.2.1)]) (fun x=>[zI (rI .u32) p1 c1 (ya a),zI (rI .u32) p2 c2 (ya b)]) (fun x:Nat×(List Int)×Int=>(ya b).length - x.1) (0,os,0) (by dsimp only;exact ⟨Oo,hol,hok,Od,Od,hz,by rw [hv];simp [yj]⟩) ((.c rfl (.e rfl vA (.of rfl))):vQ _ _) (ho:=(o0 rfl)) ((.of [1,2] rfl):q9 _ _ _) ?_
 rintro ⟨j,a0,cy⟩ hJ
 dsimp only at hJ
 try dsimp only
 obtain ⟨hj,a4,a1,b5,b6,a2,a5⟩:=hJ
 have a9:=yp hob j
 have hg3:=yp a1 (i+j)
 have hpq:=Big.zbT a8 a9
 refine jg 1 rfl<|zx rfl (fun h6=> ?_) (fun h6=> ?_)
 refine qN<|zi<|qe<|zk<|jK 1 rfl<|QL (x0:=((ya b).getD j 0)) 1 j rfl yb qM rfl rfl rfl (by first|rfl|assumption|(simp;omega)|omega) rfl rfl (gD (d:=0) om) (fun b7 o8 a6=> ?_)
 replace a6:=zO.1 a6
 refine zw (zf (j:=0) 0 vJ rfl rfl rfl rfl)<|jD 2 rfl<|kS 3 rfl<|zE (Qj rfl rfl)<|zE (zZ (j:=(i+j)) yb qM rfl rfl rfl om)<|zdA rfl rfl (qi 0 (i+j) rfl vJ rfl rfl (gD (d:=0) om) rfl) (fun _ a7=> ?_)
 replace a7:=zO.1 a7
 refine zE (zY (z:=(a0.getD (i+j) 0)) rfl (by rw [yd];rfl) ye (vu om))<|qJ rfl<|zE (zY (z:=((ya a).getD i 0)) rfl (by rw [yd];rfl) ye (vu om))<|qJ rfl<|zE (zY (z:=((ya b).getD j 0)) rfl (by rw [yd];rfl) ye (vu om))<|zE (qw (z:=(((ya a).getD i 0)*((ya b).getD j 0))) rfl rfl (vu om))<|zE (qm (z:=((a0.getD (i+j) 0)+(((ya a).getD i 0)*((ya b).getD j 0)))) rfl rfl (vu om))<|qJ rfl<|zE (qm (z:=(((a0.getD (i+j) 0)+(((ya a).getD i 0)*((ya b).getD j 0)))+cy)) rfl rfl (vu om))<|vZ 1 rfl<|vM 3 rfl<|zE (Qj rfl rfl)<|qJ rfl<|zE (jk (z:=((((a0.getD (i+j) 0)+(((ya a).getD i 0)*((ya b).getD j 0)))+cy)%1000000000)) rfl rfl om (KG om om))<|zE (zY (z:=((((a0.getD (i+j) 0)+(((ya a).getD i 0)*((ya b).getD j 0)))+cy)%1000000000)) rfl (by rw [ye];rfl) yd (ZU om))<|qJ rfl<|zE (Z6 (z:=((((a0.getD (i+j) 0)+(((ya a).getD i 0)*((ya b).getD j 0)))+cy) / 1000000000)) rfl rfl om (by rw [KF (z:=((((a0.getD (i+j) 0)+(((ya a).getD i 0)*((ya b).getD j 0)))+cy) / 1000000000)) om om];exact vu om))<|zE (zZ (j:=(i+j)) yb qM rfl rfl rfl om)<|vO 0 rfl (qh (j:=(i+j)) (x0:=((((a0.getD (i+j) 0)+(((ya a).getD i 0)*((ya b).getD j 0)))+cy)%1000000000)) (γ0:=()) rfl rfl om rfl rfl qM (fun _ _=>by exact zO.2 om)) (fun _=> .z) (fun _ _=> ?_)
 refine qY 1 rfl<|zG<|zi<|zv<|zE (qj rfl rfl)<|qY 1 rfl<|zW ((j+1),a0.set (i+j) ((a0.getD (i+j) 0+(ya a).getD i 0*(ya b).getD j 0+cy)%1000000000),(a0.getD (i+j) 0+(ya a).getD i 0*(ya b).getD j 0+cy) / 1000000000) (by dsimp only;exact ⟨Oo,by simpa using a4,Big.QW a1 om om,Oo,Oo,fun k hk=>by rw [yy om];exact a2 k om,Big.zcu a5 om om⟩) (by dsimp only;omega) ((.e rfl vA (.of rfl)):vQ _ _) (ho:=((.e (i:=0) rfl vA .n):zJ _ _ _)) ((.of [1,2] rfl):q9 _ _ _)
 have hjb:j=(ya b).length:=Oo
 subst hjb
 have b4:=a5
 refine z7<|ze<|ze<|zn<|zi<|vM 4 rfl<|zE (qm rfl rfl w6)<|qJ rfl<|zE (zY (z:=cy) rfl (by rw [ye];rfl) yd (ZU om))<|zE (zZ (j:=(i+((ya b).length))) yb qM rfl rfl rfl om)<|vO 0 rfl (qh (j:=(i+((ya b).length))) (x0:=cy) (γ0:=()) rfl rfl om rfl rfl qM (fun _ _=>by exact zO.2 om)) (fun _=> .z) (fun _ _=> ?_)
 refine jq<|zG<|zi<|zv<|zE (qj rfl rfl)<|qY 1 rfl<|zW ((i+1),a0.set (i+(ya b).length) cy) (by exact ⟨Oo,by simpa using a4,Big.QW a1 om om,fun k hk=>by rw [yy om];exact a2 k om,Big.za2 b4 om (a2 _ (yF _))⟩) om (mR rfl) ((.e (i:=0) rfl vA .n):zJ _ _ _) ((.of [0,1] rfl))
 have hia:i=(ya a).length:=Oo
 have hfin:yv os=ya (a*b):=Big.JR hok (by rw [hv,hia,List.take_length,yB,yB,yai])
 refine z7<|ze<|ze<|zn<|zi<|jK 1 rfl<|qt 0 rfl .z<|zm (qS rfl) zP (Jh Kw) (qX 0 rfl) ?_
 rintro ⟨⟩ -
 refine Zp 1 rfl ?_
 exact zq rfl ((Sb b1),(((ya a).length)+((ya b).length))) trivial (zj rfl) (by rw [hfin]) oN ((.e (j:=0) rfl (by rw [hfin]) .n))
theorem zgg {s:Bool} {p:Option Addr} {n:Nat} {cap:Nat} {l:List Int} (hn:l.length=n):CA 167 [.agg #[.bool s,.slice p n cap]] [zI (rI .u32) p cap l] (.int .i64 ((yg s l).sign)):=by
 refine zg Tryz.func167 rfl rfl (fun c=> ?_)
 refine zN 0 rfl (fun hL0=> ?_)
 refine jZ 0 rfl (fun a0=> ?_)
 have hnn:yr l:=fun g hg=>(zO.1 (a0 g hg)).1
 refine vg<|zB (zX rfl rfl) (fun b1=> ?_)
 refine jn 1 rfl<|zk<|vg<|zw (za 0 z4 rfl rfl (.t2 .nil))<|zm (qS rfl) zP (j7 qB) (qX 0 rfl) ?_
 rintro ⟨p22,c23⟩ -
 refine vZ 3 rfl<|zx rfl (fun h0=> ?_) (fun h0=> ?_)
 refine Zn 1 rfl<|qz<|zD ?_
 exact zq rfl () trivial (zj rfl) (by rw [show yg s l=0 by have:=Big.Ze.1 (show (ya (yg s l).natAbs).length=0 by omega);omega];rfl) oN sN
 refine vg<|zE (zb yf rfl Jn rfl rfl)<|zw (zc 0 J5 rfl rfl rfl)<|vZ 1 rfl<|ZN rfl (fun hs=> ?_) (fun hs=> ?_)
 refine Zn 1 rfl<|qz<|zD ?_
 exact zq rfl () trivial (zj rfl) (by rw [Big.sign_neg hnn hs (by intro e;rw [e] at h0;exact h0 rfl)]) oN sN
 refine qN<|zG<|zi<|Zn 1 rfl ?_
 exact zq rfl () trivial (zj rfl) (by rw [Big.zmk hnn hs (by intro e;rw [e] at h0;exact h0 rfl)]) oN sN
theorem zba :jI yh 167 [.agg #[.bool (decide ((z)<0)),.slice (p) ((ya ((z).natAbs)).length) (cap)]] [] [zI (rI .u32) (p) (cap) (ya ((z).natAbs))] (Y:=Unit) (fun y=>True) (fun y=> yas yat ((z).sign)) (fun y=>[]) (fun y=>[]):=by
  have h:= @zgg (decide ((z)<0)) p (ya (z).natAbs).length cap (ya (z).natAbs) rfl
  rw [yw] at h
  exact h
theorem QP :jI yh 167 [.agg #[w1.b,w1.l]] [] [zF w1 (x1)] (Y:=Unit) (fun y=>True) (fun y=> yas yat ((x1).sign)) (fun y=>[]) (fun y=>[]):=by
  exact WP (fun p c=>zba)
theorem zpM {s:Bool} {p1:Option Addr} {n1:Nat} {c1:Nat} {l1:List Int} {t:Bool} {p2:Option Addr} {n2:Nat} {c2:Nat} {l2:List Int} (hn1:l1.length=n1) (hn2:l2.length=n2) (hb1:yi (yg s l1)≤4398046511104) (hb2:yi (yg t l2)≤4398046511104):CB 142 [.agg #[.bool s,.slice p1 n1 c1],.agg #[.bool t,.slice p2 n2 c2]] [zI (rI .u32) p1 c1 l1,zI (rI .u32) p2 c2 l2] (Y:=(Option Addr)×Nat) (fun y=> .agg #[.bool (decide ((yg s l1+yg t l2)<0)),.slice (y.1) ((ya ((yg s l1+yg t l2).natAbs)).length) (y.2)]) (fun y=>[zI (rI .u32) (y.1) (y.2) (ya ((yg s l1+yg t l2).natAbs))]):=by
 refine zg Tryz.func142 rfl rfl (fun c=> ?_)
 refine zN 0 rfl (fun hL0=> ?_)
 refine jZ 0 rfl (fun a0=> ?_)
 refine zN 1 rfl (fun hL1=> ?_)
 refine jZ 1 rfl (fun a1=> ?_)
 have a2:yr l1:=fun g hg=>(zO.1 (a0 g hg)).1
 have a3:yr l2:=fun g hg=>(zO.1 (a1 g hg)).1
 refine vg<|zB (zX rfl rfl) (fun b1=> ?_)
 refine zB (zX rfl rfl) (fun b2=> ?_)
 refine zB (zo jo rfl) (fun b3=> ?_)
 refine ZI<|Vk 9<|zC 0 rfl (zb yf rfl Jn rfl rfl)<|qy 1 rfl (zc 2 J5 rfl rfl rfl)<|qy 2 rfl (za 2 z4 rfl rfl (.t2 .nil))<|zC 4 rfl (zb yf rfl Jn rfl rfl)<|qy 5 rfl (zc 1 J5 rfl rfl rfl)<|qy 6 rfl (za 1 z4 rfl rfl (.t2 .nil))<|zt 3 (zp rfl (qS rfl) zP (j7 qB) (qX 0 rfl) ?_)
 rintro ⟨p24,c25⟩ -
 refine zt 7 (zp rfl (qS rfl) zP (j7 qB) (qX 2 rfl) ?_)
 rintro ⟨p26,c27⟩ -
 refine zt 8 (zp rfl (.c rfl (.c rfl (.c rfl (.c rfl .n)))) zP (zjL Kw Kw) (vj 1 0) ?_)
 rintro ⟨a4,a5⟩ -
 refine zt 9 (zH rfl rfl rfl rfl z8 (.t2 .nil) ?_)
 refine zU kr<|zi<|vv ?_
 have hz:yk s ((yg s l1).natAbs:Int)+yk t ((yg t l2).natAbs:Int)=yg s l1+yg t l2:=by rw [Big.JG a2,Big.JG a3]
 exact zq rfl (a4,a5) trivial (zy 0 z4 rfl rfl (.t2 .nil)) (by rw [hz]) oN ((.e (j:=0) rfl (by rw [hz]) .n))
theorem zmW (hb1:yi x1≤4398046511104) (hb2:yi x2≤4398046511104):jI yh 142 [.agg #[.bool (decide ((x1)<0)),.slice (p1) ((ya ((x1).natAbs)).length) (c1)],.agg #[.bool (decide ((x2)<0)),.slice (p2) ((ya ((x2).natAbs)).length) (c2)]] [] [zI (rI .u32) (p1) (c1) (ya ((x1).natAbs)),zI (rI .u32) (p2) (c2) (ya ((x2).natAbs))] (Y:=(Option Addr)×(Nat)) (fun y=>True) (fun y=> .agg #[.bool (decide ((x1+x2)<0)),.slice (y.1) ((ya ((x1+x2).natAbs)).length) (y.2)]) (fun y=>[]) (fun y=>[zI (rI .u32) (y.1) (y.2) (ya ((x1+x2).natAbs))]):=by
  have h:= @zpM (decide ((x1)<0)) p1 (ya (x1).natAbs).length c1 (ya (x1).natAbs) (decide ((x2)<0)) p2 (ya (x2).natAbs).length c2 (ya (x2).natAbs) rfl rfl (by rw [yw];exact hb1) (by rw [yw];exact hb2)
  rw [yw,yw] at h
  exact h
theorem zgh (hb1:yi x1≤4398046511104) (hb2:yi x2≤4398046511104):jI yh 142 [.agg #[w1.b,w1.l],.agg #[w2.b,w2.l]] [] [zF w1 (x1),zF w2 (x2)] (Y:=(Wd)) (fun y=>True) (fun y=> .agg #[y.b,y.l]) (fun y=>[]) (fun y=>[zF y (x1+x2)]):=by
  exact Vn (Jb (fun p1 c1 p2 c2=>zmW hb1 hb2))
theorem zpN {s:Bool} {p1:Option Addr} {n1:Nat} {c1:Nat} {l1:List Int} {t:Bool} {p2:Option Addr} {n2:Nat} {c2:Nat} {l2:List Int} (hn1:l1.length=n1) (hn2:l2.length=n2) (hb1:yi (yg s l1)≤4398046511104) (hb2:yi (yg t l2)≤4398046511104):CB 262 [.agg #[.bool s,.slice p1 n1 c1],.agg #[.bool t,.slice p2 n2 c2]] [zI (rI .u32) p1 c1 l1,zI (rI .u32) p2 c2 l2] (Y:=(Option Addr)×Nat) (fun y=> .agg #[.bool (decide ((yg s l1 - yg t l2)<0)),.slice (y.1) ((ya ((yg s l1 - yg t l2).natAbs)).length) (y.2)]) (fun y=>[zI (rI .u32) (y.1) (y.2) (ya ((yg s l1 - yg t l2).natAbs))]):=by
 refine zg Tryz.func262 rfl rfl (fun c=> ?_)
 refine zN 0 rfl (fun hL0=> ?_)
 refine jZ 0 rfl (fun a0=> ?_)
 refine zN 1 rfl (fun hL1=> ?_)
 refine jZ 1 rfl (fun a1=> ?_)
 have a2:yr l1:=fun g hg=>(zO.1 (a0 g hg)).1
 have a3:yr l2:=fun g hg=>(zO.1 (a1 g hg)).1
 refine vg<|zB (zX rfl rfl) (fun b1=> ?_)
 refine zB (zX rfl rfl) (fun b2=> ?_)
 refine zB (zo jo rfl) (fun b3=> ?_)
 refine ZI<|Vk 10<|zC 0 rfl (zb yf rfl Jn rfl rfl)<|qy 1 rfl (zc 2 J5 rfl rfl rfl)<|qy 2 rfl (za 2 z4 rfl rfl (.t2 .nil))<|zC 4 rfl (zb yf rfl Jn rfl rfl)<|qy 5 rfl (zc 1 J5 rfl rfl rfl)<|zC 6 rfl (Zo rfl)<|qy 7 rfl (za 1 z4 rfl rfl (.t2 .nil))<|zt 3 (zp rfl (qS rfl) zP (j7 qB) (qX 0 rfl) ?_)
 rintro ⟨p24,c25⟩ -
 refine zt 8 (zp rfl (qS rfl) zP (j7 qB) (qX 2 rfl) ?_)
 rintro ⟨p26,c27⟩ -
 refine zt 9 (zp rfl (.c rfl (.c rfl (.c rfl (.c rfl .n)))) zP (zjL Kw Kw) (vj 1 0) ?_)
 rintro ⟨a4,a5⟩ -
 refine zt 10 (zH rfl rfl rfl rfl z8 (.t2 .nil) ?_)
 refine zU kr<|zi<|vv ?_
 have hz:yk s ((yg s l1).natAbs:Int)+yk (!t) ((yg t l2).natAbs:Int)=yg s l1 - yg t l2:=by rw [Big.zhG,Big.JG a2,Big.JG a3];omega
 exact zq rfl (a4,a5) trivial (zy 0 z4 rfl rfl (.t2 .nil)) (by rw [hz]) oN ((.e (j:=0) rfl (by rw [hz]) .n))
theorem zmX (hb1:yi x1≤4398046511104) (hb2:yi x2≤4398046511104):jI yh 262 [.agg #[.bool (decide ((x1)<0)),.slice (p1) ((ya ((x1).natAbs)).length) (c1)],.agg #[.bool (decide ((x2)<0)),.slice (p2) ((ya ((x2).natAbs)).length) (c2)]] [] [zI (rI .u32) (p1) (c1) (ya ((x1).natAbs)),zI (rI .u32) (p2) (c2) (ya ((x2).natAbs))] (Y:=(Option Addr)×(Nat)) (fun y=>True) (fun y=> .agg #[.bool (decide ((x1 - x2)<0)),.slice (y.1) ((ya ((x1 - x2).natAbs)).length) (y.2)]) (fun y=>[]) (fun y=>[zI (rI .u32) (y.1) (y.2) (ya ((x1 - x2).natAbs))]):=by
  have h:= @zpN (decide ((x1)<0)) p1 (ya (x1).natAbs).length c1 (ya (x1).natAbs) (decide ((x2)<0)) p2 (ya (x2).natAbs).length c2 (ya (x2).natAbs) rfl rfl (by rw [yw];exact hb1) (by rw [yw];exact hb2)
  rw [yw,yw] at h
  exact h
theorem zcR (hb1:yi x1≤4398046511104) (hb2:yi x2≤4398046511104):jI yh 262 [.agg #[w1.b,w1.l],.agg #[w2.b,w2.l]] [] [zF w1 (x1),zF w2 (x2)] (Y:=(Wd)) (fun y=>True) (fun y=> .agg #[y.b,y.l]) (fun y=>[]) (fun y=>[zF y (x1 - x2)]):=by
  exact Vn (Jb (fun p1 c1 p2 c2=>zmX hb1 hb2))
theorem zpO {s:Bool} {p1:Option Addr} {n1:Nat} {c1:Nat} {l1:List Int} {t:Bool} {p2:Option Addr} {n2:Nat} {c2:Nat} {l2:List Int} (hn1:l1.length=n1) (hn2:l2.length=n2) (hb1:yi (yg s l1)≤4398046511104) (hb2:yi (yg t l2)≤4398046511104):CB 141 [.agg #[.bool s,.slice p1 n1 c1],.agg #[.bool t,.slice p2 n2 c2]] [zI (rI .u32) p1 c1 l1,zI (rI .u32) p2 c2 l2] (Y:=(Option Addr)×Nat) (fun y=> .agg #[.bool (decide ((yg s l1*yg t l2)<0)),.slice (y.1) ((ya ((yg s l1*yg t l2).natAbs)).length) (y.2)]) (fun y=>[zI (rI .u32) (y.1) (y.2) (ya ((yg s l1*yg t l2).natAbs))]):=by
 refine zg Tryz.func141 rfl rfl (fun c=> ?_)
 refine zN 0 rfl (fun hL0=> ?_)
 refine jZ 0 rfl (fun a0=> ?_)
 refine zN 1 rfl (fun hL1=> ?_)
 refine jZ 1 rfl (fun a1=> ?_)
 have a2:yr l1:=fun g hg=>(zO.1 (a0 g hg)).1
 have a3:yr l2:=fun g hg=>(zO.1 (a1 g hg)).1
 refine vg<|zB (zX rfl rfl) (fun b1=> ?_)
 refine zB (zX rfl rfl) (fun b2=> ?_)
 refine zB (zo jo rfl) (fun b3=> ?_)
 refine ZI<|Vk 11<|zC 0 rfl (zb yf rfl Jn rfl rfl)<|qy 1 rfl (zc 2 J5 rfl rfl rfl)<|zC 2 rfl (zb yf rfl Jn rfl rfl)<|qy 3 rfl (zc 1 J5 rfl rfl rfl)<|zC 4 rfl (Zt yn rfl rfl)<|qy 5 rfl (za 2 z4 rfl rfl (.t2 .nil))<|qy 7 rfl (za 1 z4 rfl rfl (.t2 .nil))<|zt 6 (zp rfl (qS rfl) zP (j7 qB) (qX 0 rfl) ?_)
 rintro ⟨p24,c25⟩ -
 refine zt 8 (zp rfl (qS rfl) zP (j7 qB) (qX 2 rfl) ?_)
 rintro ⟨p26,c27⟩ -
 refine zt 9 (zp rfl (q7 rfl rfl) zP (zdX Kw Kw) (vj 1 0) ?_)
 rintro ⟨p38,c39⟩ -
 refine zt 10 (zp rfl (q7 rfl rfl) zP jG (qX 0) ?_)
 rintro ⟨a4,a5⟩ -
 refine zt 11 (zH rfl rfl rfl rfl z8 (.t2 .nil) ?_)
 refine zU kr<|zi<|vv ?_
 have hz:yk (decide (s≠t)) (((yg s l1).natAbs*(yg t l2).natAbs:Nat):Int)=yg s l1*yg t l2:=by rw [Big.zex,Big.JG a2,Big.JG a3]
 exact zq rfl (a4,a5) trivial (zy 0 z4 rfl rfl (.t2 .nil)) (by rw [hz]) oN ((.e (j:=0) rfl (by rw [hz]) .n))
theorem zmY (hb1:yi x1≤4398046511104) (hb2:yi x2≤4398046511104):jI yh 141 [.agg #[.bool (decide ((x1)<0)),.slice (p1) ((ya ((x1).natAbs)).length) (c1)],.agg #[.bool (decide ((x2)<0)),.slice (p2) ((ya ((x2).natAbs)).length) (c2)]] [] [zI (rI .u32) (p1) (c1) (ya ((x1).natAbs)),zI (rI .u32) (p2) (c2) (ya ((x2).natAbs))] (Y:=(Option Addr)×(Nat)) (fun y=>True) (fun y=> .agg #[.bool (decide ((x1*x2)<0)),.slice (y.1) ((ya ((x1*x2).natAbs)).length) (y.2)]) (fun y=>[]) (fun y=>[zI (rI .u32) (y.1) (y.2) (ya ((x1*x2).natAbs))]):=by
  have h:= @zpO (decide ((x1)<0)) p1 (ya (x1).natAbs).length c1 (ya (x1).natAbs) (decide ((x2)<0)) p2 (ya (x2).natAbs).length c2 (ya (x2).natAbs) rfl rfl (by rw [yw];exact hb1) (by rw [yw];exact hb2)
  rw [yw,yw] at h
  exact h
theorem ju (hb1:yi x1≤4398046511104) (hb2:yi x2≤4398046511104):jI yh 141 [.agg #[w1.b,w1.l],.agg #[w2.b,w2.l]] [] [zF w1 (x1),zF w2 (x2)] (Y:=(Wd)) (fun y=>True) (fun y=> .agg #[y.b,y.l]) (fun y=>[]) (fun y=>[zF y (x1*x2)]):=by
  exact Vn (Jb (fun p1 c1 p2 c2=>zmY hb1 hb2))
theorem zpP {p:Option Addr} {n:Nat} {cap:Nat} {l:List Int} (hn:l.length=n) (hb:n≤8796093022208):CB 213 [.slice p n cap] [zI (rI .u32) p cap l] (Y:=(Option Addr)×Nat) (fun y=> .slice (y.1) (l.length) (y.2)) (fun y=>[zI (rI .u32) (y.1) (y.2) l]):=by
 refine zg Tryz.func213 rfl rfl (fun c=> ?_)
 refine zN 0 rfl (fun hL0=> ?_)
 refine zrd 0 rfl (fun hnil=> ?_)
 refine jg 1 rfl<|jK 1 rfl<|zE (zad yb rfl rfl)<|Vc<|ZN rfl (fun h0=> ?_) (fun h0=> ?_)
 refine Zn 1 rfl<|zD ?_
 obtain rfl:l=[]:=hnil (by simpa using h0)
 refine QR (rI .u32) ?_
 exact zq rfl (none,0) trivial (zj rfl) rfl oN (s0 rfl)
 refine kk8<|qZ (vq (rI .u32) yb vB) (fun b1 _=> ?_)
 refine qJ rfl<|vO 0 rfl (qT 0 rfl yb vB dd rfl rfl J0 rfl J0 om om) (fun _=> .z) ?_
 rintro ⟨p2,c3⟩ -
 refine Zp 1 rfl<|vK 0 rfl .z ?_
 exact zq rfl (p2,c3) trivial (zj rfl) (by simp [hn]) oN (s0 rfl)
theorem zas (hb:(ya (a)).length≤8796093022208):jI yh 213 [.slice (p) ((ya (a)).length) (cap)] [] [zI (rI .u32) (p) (cap) (ya (a))] (Y:=(Option Addr)×(Nat)) (fun y=>True) (fun y=> .slice (y.1) ((ya (a)).length) (y.2)) (fun y=>[]) (fun y=>[zI (rI .u32) (y.1) (y.2) (ya (a))]):=by
  exact zpP rfl hb
theorem zat {a:Nat} {p:Option Addr} {cap:Nat}:CA 232 [.slice p ((ya a).length) cap] [zI (rI .u32) p cap (ya a)] (.tuple #[.int .u64 (((if (ya a).length≤2 then a else 0):Nat):Int),.bool (decide ((ya a).length≤2))]):=by
 refine WJ Tryz.func232 rfl rfl rfl (fun c=> ?_)
 refine zN 0 rfl (fun hL0=> ?_)
 refine jg 2 rfl<|k12 3 rfl<|zx rfl (fun hgt=> ?_) (fun hgt=> ?_)
 refine Zn 2 rfl<|zD<|zjj ?_
 exact vD rfl () trivial (zj rfl) (zj rfl) (by rw [if_neg om,decide_eq_false (show ¬(ya a).length≤2 by omega)];rfl) oN sN
 have hle:(ya a).length≤2:=Oo
 have h18:=Big.KL hle
 refine kk8<|zB (zo zrl rfl) (fun b1=> ?_)
 refine zh 0 rfl rfl rfl rfl zjs (.take .nil) .z<|ZI<|jK 1 rfl<|zm (qS rfl) zP Kc (.n) ?_
 rintro b2 -
 refine Vc<|zk<|zel (fa:=[j8 b2 0 [.slice p ((ya a).length) cap],zI (rI .u32) p cap (ya a)]) (N:=((ya a).length)) (encs:=fun k=>[Vi k,.int .u32 ((ya a).getD k 0)]) rfl zP (zcO J0) (fun _=>rfl) rfl (X:=Int) (Y:=Unit) (fun x k=>k≤(ya a).length∧x=yj ((ya a).drop k)∧0≤x∧x*Big.pw k≤(a:Int)) (fun y=>False) (fun x=>[zK b1 182 [.int .u64 x]]) (fun x=>[]) (fun y=>[]) (fun y=>[]) (fun k=>[(6,.int .u32 ((ya a).getD k 0)),(13,.int .u32 ((ya a).getD k 0)),(12,Vi k),(11,.func (.func 220) #[] #[Vp b2]),(10,.slice p ((ya a).length) cap),(4,Vp b1),(9,.bool (decide (2<(((ya a).length:Nat):Int)))),(8,Vi ((ya a).length)),(7,.slice p ((ya a).length) cap),(3,.bool false),(2,.int .u64 0),(0,.slice p ((ya a).length) cap)]) (0:Int) (show ((ya a).length)≤(ya a).length∧(0:Int)=yj ((ya a).drop ((ya a).length))∧0≤(0:Int)∧(0:Int)*Big.pw ((ya a).length)≤(a:Int) from by exact ⟨yF _,by simp [yj],Int.le_refl _,by simp⟩) ((.e (i:=0) rfl vA .n):zJ _ _ _) ((.of [0,1] rfl)) ?_ ?_ ?_ ?_
 intro l k O' R' Q' hP
 refine k2n 1 rfl ?_
 exact hP
 rintro l3 D4 o5 o6 z k hkN hI
 obtain ⟨hk,hz,a0,hzp⟩:=hI
 have hg:=yp (yq a) k
 have hlim:=Big.zmr hle (show k+1≤(ya a).length by omega) a0 hzp
 refine zk<|zv<|zw (zc 2 zjr rfl rfl rfl)<|zE (qw (z:=(z*1000000000)) rfl rfl (vu om))<|qJ rfl<|zE (zY (z:=((ya a).getD k 0)) rfl (by rw [yd];rfl) ye (vu om))<|zE (qm (z:=((z*1000000000)+((ya a).getD k 0))) rfl rfl (vu om))<|zh 2 rfl rfl rfl rfl zjs (.take .nil) (.s (.s .z))<|jq<|zG ?_
 exact zek (z*1000000000+(ya a).getD k 0) (show k≤(ya a).length∧(z*1000000000+(ya a).getD k 0)=yj ((ya a).drop k)∧0≤(z*1000000000+(ya a).getD k 0)∧(z*1000000000+(ya a).getD k 0)*Big.pw k≤(a:Int) from by exact ⟨Oo,by rw [hz];exact Big.zkR k,Oo,Big.zkS (show k+1≤(ya a).length by omega) hz⟩) ((.c (i:=0) rfl (.c (i:=0) rfl (.e (i:=0) rfl vA .n))):zJ _ _ _) ((.of [0,1] rfl))
 rintro D7 z hI
 have a1:z=(a:Int):=by rw [hI.2.1,List.drop_zero,yB]
 refine zG<|zi<|vg<|zw (zc 1 zjr rfl rfl rfl)<|Zp 2 rfl<|zem 0 rfl rfl ?_
 exact vD rfl () trivial (zj rfl) (zj rfl) (by rw [if_pos hle,decide_eq_true hle,a1]) oN sN
 intro _ _ h;exact h.elim
theorem zdY {a:Nat} {mm:Nat} {p:Option Addr} {cap:Nat} (hb:(ya a).length≤4398046511104) (hm0:0<mm) (hm1:mm<4294967296):CB 255 [.slice p ((ya a).length) cap,.int .u32 ((mm:Nat):Int)] [zI (rI .u32) p cap (ya a)] (Y:=(Option Addr)×Nat) (fun y=> .tuple #[.slice (y.1) ((ya (a / mm)).length) (y.2),.int .u32 (((a%mm):Nat):Int)]) (fun y=>[zI (rI .u32) (y.1) (y.2) (ya (a / mm))]):=by
 refine WJ Tryz.func255 rfl rfl rfl (fun c=> ?_)
 refine zN 0 rfl (fun hL0=> ?_)
 refine vg<|zB (zX rfl rfl) (fun b1=> ?_)
 refine zB (zo zr28 rfl) (fun b2=> ?_)
 refine jD 1 rfl<|kS 2 rfl<|qZ (vS (r:=rI .u32) (k:=(ya a).length) (x0:=0) (γ0:=()) yb vB rfl rfl rfl rfl om om rfl (fun g _=>by exact zO.2 dd) dd) (fun b3 _=> ?_)
 refine zh 1 rfl rfl rfl rfl Zu (.take .nil) (.s .z)<|Vj<|zB (zo zrl rfl) (fun b4=> ?_)
 refine zh 0 rfl rfl rfl rfl zjs (.take .nil) .z<|ZI<|jK 1 rfl<|zm (qS rfl) zP Kc (.n) ?_
 rintro b5 -
 refine Vc<|zk<|zel (fa:=[j8 b5 0 [.slice p ((ya a).length) cap],zI (rI .u32) p cap (ya a)]) (N:=((ya a).length)) (encs:=fun k=>[Vi k,.int .u32 ((ya a).getD k 0)]) rfl zP (zcO zL) (fun _=>rfl) rfl (X:=(List Int)×(List Int)×Int) (Y:=Unit) (fun x k=>x.1=yI k 0++x.2.1∧Big.ShI (ya a) (mm:Int) k x.2.1 x.2.2) (fun y=>False) (fun x=>[zK b4 182 [.int .u64 (x.2.2)],rowA 133 (rI .u32) (Sb b3) ((ya a).length) (x.1),zK b2 28 [.slice (Sb b3) ((ya a).length) ((ya a).length)],zK b1 133 [.int .u32 ((mm:Nat):Int)]]) (fun x=>[]) (fun y=>[]) (fun y=>[]) (fun k=>[(8,.int .u32 ((ya a).getD k 0)),(7,Vi k),(16,.int .u32 ((ya a).getD k 0)),(15,Vi k),(14,.func (.func 220) #[] #[Vp b5]),(13,.slice p ((ya a).length) cap),(6,Vp b4),(12,.slice (Sb b3) ((ya a).length) ((ya a).length)),(11,Vi ((ya a).length)),(10,.slice p ((ya a).length) cap),(5,.int .u32 0),(4,Vp b2),(3,Vp b1),(0,.slice p ((ya a).length) cap),(1,.int .u32 ((mm:Nat):Int))]) ((yI (ya a).length 0),([]:List Int),(0:Int)) (show (yI (ya a).length 0)=yI ((ya a).length) 0++([]:List Int)∧Big.ShI (ya a) (mm:Int) ((ya a).length) ([]:List Int) (0:Int) from by exact ⟨by simp,Big.ShI.start om⟩) ((.e (i:=0) rfl vA (.e (i:=0) rfl vA (.of [0,0] rfl))):zJ _ _ _) ((.of [0,1] rfl)) ?_ ?_ ?_ ?_
 intro l k O' R' Q' hP
 refine k12 1 rfl<|k2n 1 rfl ?_
 exact hP
 rintro l6 D7 o8 o9 ⟨os,qs,z⟩ k hkN hI
 dsimp only at hI
 try dsimp only
 obtain ⟨hos,hS⟩:=hI
 have a0:=hS.r0
 have a1:=hS.r1
 have hkle:=hS.le
 have hosl:os.length=(ya a).length:=by rw [hos,yal,List.length_replicate,hS.len];omega
 have hg:=yp (yq a) k
 have hdg:=Big.zcx a0 a1 hg
 have hrm:=yac (z*1000000000+(ya a).getD k 0) (show 0<(mm:Int) by omega)
 have a5:=Int.emod_nonneg (z*1000000000+(ya a).getD k 0) (show (mm:Int)≠0 by omega)
 refine zk<|vg<|zw (zc 2 zjr rfl rfl rfl)<|zE (qw (z:=(z*1000000000)) rfl rfl (vu om))<|qJ rfl<|zE (zY (z:=((ya a).getD k 0)) rfl (by rw [yd];rfl) ye (vu om))<|zE (qm (z:=((z*1000000000)+((ya a).getD k 0))) rfl rfl (vu om))<|vZ 1 rfl<|vk (.c (i:=3) rfl (.c (i:=2) rfl (.c (i:=0) rfl (.c (i:=0) rfl (.c (i:=0) rfl (.c (i:=0) rfl .n))))))<|zju (OW:=[rowA 133 (rI .u32) (Sb b3) ((ya a).length) os,zK b4 182 [.int .u64 z]]) (O:=[QI l6 o8,QI D7 o9,zK b2 28 [.slice (Sb b3) ((ya a).length) ((ya a).length)],zK b1 133 [.int .u32 ((mm:Nat):Int)]]) 12 mixed kr kr<|qy 0 rfl (zc 4 jQ rfl rfl rfl)<|zQ 1 rfl rfl<|zQ 2 rfl rfl<|qy 3 rfl (zc 5 vJ rfl rfl rfl)<|zC 4 rfl (zY (z:=((mm:Nat):Int)) rfl (by rw [yd];rfl) ye (vu om))<|zC 5 rfl (Z6 (z:=(((z*1000000000)+((ya a).getD k 0)) / ((mm:Nat):Int))) rfl rfl om (by rw [KF (z:=(((z*1000000000)+((ya a).getD k 0)) / ((mm:Nat):Int))) om om];exact vu om))<|zC 6 rfl (zY (z:=(((z*1000000000)+((ya a).getD k 0)) / ((mm:Nat):Int))) rfl (by rw [ye];rfl) yd (ZU om))<|zQ 7 rfl rfl<|vE 8 rfl (zc 3 vJ rfl rfl rfl)<|zC 9 rfl (zY (z:=((mm:Nat):Int)) rfl (by rw [yd];rfl) ye (vu om))<|zC 10 rfl (jk (z:=(((z*1000000000)+((ya a).getD k 0))%((mm:Nat):Int))) rfl rfl om (KG om om))<|zC 11 rfl (zZ (j:=k) yb qM rfl rfl rfl om)<|zt 12 (VH (A':=fun _=>rowA 133 (rI .u32) (Sb b3) ((ya a).length) (os.set k (((z*1000000000)+((ya a).getD k 0)) / ((mm:Nat):Int)))) kr rfl (qh (j:=k) (x0:=(((z*1000000000)+((ya a).getD k 0)) / ((mm:Nat):Int))) (γ0:=()) rfl rfl om rfl rfl qM (fun _ _=>by exact zO.2 om)) (hw':=rfl) (hd:=rfl) (fun _ _=> ?_))
 refine Zc (qP (i:=1) rfl)<|zt 13 (zH rfl rfl rfl rfl zjs (.take .nil) ?_)
 refine zjv kr<|zG ?_
 exact zek ((os.set k (((z*1000000000)+((ya a).getD k 0)) / ((mm:Nat):Int))),((z*1000000000+(ya a).getD k 0) / (mm:Int) :: qs),((z*1000000000+(ya a).getD k 0)%(mm:Int))) (show (os.set k (((z*1000000000)+((ya a).getD k 0)) / ((mm:Nat):Int)))=yI k 0++((z*1000000000+(ya a).getD k 0) / (mm:Int) :: qs)∧Big.ShI (ya a) (mm:Int) k ((z*1000000000+(ya a).getD k 0) / (mm:Int) :: qs) ((z*1000000000+(ya a).getD k 0)%(mm:Int)) from by exact ⟨by rw [hos];exact Big.zaj _,hS.step (yq a)⟩) ((.c (i:=2) rfl (.c (i:=2) rfl (.e (i:=0) rfl vA (.of [0,0,0] rfl)))):zJ _ _ _) ((.of [0,1] rfl))
 rintro a2 ⟨os,qs,z⟩ hI
 dsimp only at hI
 try dsimp only
 obtain ⟨hos,hS⟩:=hI
 obtain ⟨a3,a4⟩:=hS.fin
 have hoq:os=qs:=by simpa using hos
 have htr:yv os=ya (a / mm):=by rw [hoq];exact a3
 have hosl:os.length=(ya a).length:=by rw [hoq,hS.len];omega
 have hzr:=hS.r1
 have a6:=hS.r0
 refine zG<|zi<|qe<|vk (.c (i:=3) rfl (.c (i:=0) rfl (.c (i:=0) rfl (.c (i:=0) rfl .n))))<|zju (OW:=[zK b2 28 [.slice (some ⟨b3,0,none⟩) ((ya a).length) ((ya a).length)]]) (O:=[QI a2 (.deferred (some [])),zK b4 182 [.int .u64 z],rowA 133 (rI .u32) (some ⟨b3,0,none⟩) ((ya a).length) os]) 4 mixed kr kr<|zrr 0 rfl rfl (zc 0 jQ rfl rfl rfl) ?_
 refine zpB 2 rfl rfl (zc 1 zjr rfl rfl rfl) ?_
 refine KR 3 rfl rfl (zY (z:=z) rfl (by rw [ye];rfl) yd (ZU om)) ?_
 refine Qw 2 rfl (.s (.s .z))<|zt 1 (zp rfl (.c rfl .n) zP (Jh Kw) (qX 0 rfl) ?_)
 rintro ⟨⟩ -
 refine zt 4 (zH rfl rfl rfl rfl Zu (.take .nil) ?_)
 refine zC 5 rfl (zT rfl)<|zjv kr<|zi<|vv<|zem 1 rfl rfl ?_
 exact vD rfl ((Sb b3),((ya a).length)) trivial (Js 0 jQ rfl rfl rfl) (zj rfl) (by rw [htr,a4]) oN ((.e (j:=0) rfl (by rw [htr]) .n))
 intro _ _ h;exact h.elim
theorem zk7 (hn:l.length=n):jI yh 250 [.slice p n cap] [rowA 133 (rI .u32) p cap l] [] (Y:=Unit) (fun y=>True) (fun y=> .slice p ((yv l).length) cap) (fun y=>[rowA 133 (rI .u32) p cap (yv l)]) (fun y=>[]):=by
 refine zg Tryz.func250 rfl rfl (fun c=> ?_)
 refine zmo 0 rfl (fun hcl=> ?_)
 refine jg 1 rfl<|zk<|Qr (X:=Nat) (fun x=>x≤l.length∧yv (l.take x)=yv l) (fun x=>[(0,.slice p x cap)]) (fun x=>[rowA 133 (rI .u32) p cap l]) (fun x=>[]) (fun x=>x) n (by exact ⟨Oo,by rw [yae om]⟩) ((.c rfl .n)) (o0 rfl) sN ?_
 rintro k hI
 obtain ⟨hk,hT⟩:=hI
 refine qe<|ji (X:=Unit) (fun x=>True) (fun x=>[(14,.bool (decide (0<k∧l.getD (k - 1) 0=0))),(0,.slice p k cap)]) (fun x=>[rowA 133 (rI .u32) p cap l]) (fun x=>[]) ?_ ?_
 refine vM 3 rfl<|q8 (qU rfl) (fun h1=> ?_) (fun h1=> ?_)
 refine kS 3 rfl<|zE (qx (z:=(((k - 1):Nat):Int)) rfl rfl (Q9 om))<|zw (zdw 0 (k - 1) rfl yb qM rfl zL rfl rfl om)<|vX (qi 0 (k - 1) rfl vJ rfl rfl (gD (d:=0) om) rfl) (fun _ a0=> ?_)
 replace a0:=zO.1 a0
 refine qY 2 rfl ?_
 exact qL () Qn ((.e rfl (congrArg Value.bool (by have h1:0<k:=om;have h2:((k:Int) - 1).toNat=k - 1:=om;simp [h1,h2])) (.c rfl .n))) (o0 rfl) sN
 refine qY 8 rfl ?_
 exact qL () Qn ((.e rfl (congrArg Value.bool (by have h1:¬0<k:=om;simp [h1])) (.c rfl .n))) (o0 rfl) sN
 rintro ⟨⟩ -
 refine zx rfl (fun hc=> ?_) (fun hc=> ?_)
 refine kk6<|zk<|zv<|kS 3 rfl<|zE (qx (z:=(((k - 1):Nat):Int)) rfl rfl (Q9 om))<|zE (ZW (hi:=(k - 1)) yb qM rfl (.s rfl) (.inr ⟨_,rfl⟩) om)<|kS 1 rfl<|jq<|zG<|zW (k - 1) (by exact ⟨Oo,by rw [← hT,Big.zev l hc.1 hk hc.2]⟩) om ((.e rfl vA .n)) (o0 rfl) sN
 refine z7<|ze<|ze<|zn<|zi<|Zn 2 rfl ?_
 have hfin:l.take k=yv l:=by rw [← hT];exact (Big.Wf l hk hc).symm
 have hlk:(l.take k).length=k:=by rw [yao];omega
 refine ZH (fun w mm=>mm.rowTake 0 rfl k) ?_
 dsimp only [List.set]
 have e3:l.take k=yv l:=by exact hfin
 rw [e3]
 exact zq rfl () trivial (zj rfl) (by rw [← hfin,hlk]) (o0 rfl) sN
theorem zh0 (hb1:(ya a).length≤4398046511104) (hb2:(ya b).length≤4398046511104):jI yh 214 [.slice p1 ((ya a).length) c1,.slice p2 ((ya b).length) c2] [] [zI (rI .u32) p1 c1 (ya a),zI (rI .u32) p2 c2 (ya b)] (Y:=(Option Addr)×Nat) (fun y=>True) (fun y=> .slice (y.1) ((ya (a*b)).length) (y.2)) (fun y=>[rowA 133 (rI .u32) (y.1) (y.2) (ya (a*b))]) (fun y=>[]):=by
 refine zg Tryz.func214 rfl rfl (fun c=> ?_)
 refine zN 0 rfl (fun hL0=> ?_)
 refine zN 1 rfl (fun hL1=> ?_)
 have hoa:=yq a
 have hob:=yq b
 refine jS 1 rfl<|kS 4 rfl<|zE (qm rfl rfl w6)<|qZ (vS (r:=rI .u32) (k:=(((ya a).length)+((ya b).length))) (x0:=0) (γ0:=()) yb vB rfl rfl rfl rfl om om rfl (fun g _=>by exact zO.2 dd) dd) (fun b1 _=> ?_)
 refine jn 1 rfl<|k12 3 rfl<|zk<|z5 (X:=Nat×(List Int)) (fun x=>x.1≤(ya a).length∧x.2.length=(ya a).length+(ya b).length∧Big.Qk x.2∧(∀k,x.1+(ya b).length≤k→x.2.getD k 0=0)∧yj x.2=yj ((ya a).take x.1)*yj (ya b)) (fun x=>[(20,Vi x.1)]) [19,18,5,1] (fun x=>[rowA 133 (rI .u32) (Sb b1) (((ya a).length)+((ya b).length)) (x.2)]) (fun x=>[]) [0,1] (fun x=>(ya a).length - x.1) (0,yI ((ya a).length+(ya b).length) 0) (by exact ⟨Oo,by simp,Big.za0 _,fun k _=>Big.WK _ k,by simp [Big.J6,yj]⟩) (.e rfl vA .n) ((.e (i:=0) rfl vA .n):zJ _ _ _) sN ?_
 rintro ⟨i,os⟩ hI
 dsimp only at hI
 obtain ⟨hi,hol,hok,hz,hv⟩:=hI
 have a8:=yp hoa i
 refine jg 1 rfl<|zx rfl (fun h2=> ?_) (fun h2=> ?_)
 refine vY<|zk<|jK 1 rfl<|qH 0 i rfl yb qM rfl zL rfl rfl (gD (d:=0) om) (fun b3 o4 a3=> ?_) (x0:=((ya a).getD i 0))
 replace a3:=zO.1 a3
 refine zw (zf (j:=0) 0 vJ rfl rfl rfl rfl)<|jD 2 rfl<|jn 1 rfl<|k12 3 rfl<|zk<|Qr (X:=Nat×(List Int)×Int) (fun x:Nat×(List Int)×Int=>x.1≤(ya b).length∧x.2.1.length=(ya a).length+(ya b).length∧Big.Qk x.2.1∧0≤x.2.2∧x.2.2<1000000000∧(∀k,i+(ya b).length≤k→x.2.1.getD k 0=0)∧yj x.2.1+Big.pw (i+x.1)*x.2.2=yj ((ya a).take i)*yj (ya b)+Big.pw i*(ya a).getD i 0*yj ((ya b).take x.1)) (fun x=>[(8,.int .u64 (x.2.2)),(27,Vi x.1),(26,Vi ((ya b).length)),(25,.slice p2 ((ya b).length) c2),(7,.int .u32 ((ya a).getD i 0)),(6,Vi i),(20,Vi i),(19,Vi ((ya a).length)),(18,.slice p1 ((ya a).length) c1),(5,.slice (Sb b1) (((ya a).length)+((ya b).length)) (((ya a).length)+((ya b).length))),(1,.slice p2 ((ya b).length) c2)]) (fun x=>[rowA 133 (rI .u32) (Sb b1) (((ya a).length)+((ya b).length)) (x.2.1)]) (fun x=>[zI (rI .u32) p1 c1 (ya a),zI (rI .u32) p2 c2 (ya b)]) (fun x:Nat×(List Int)×Int=>(ya b).length - x.1) (0,os,0) (by dsimp only;exact ⟨Oo,hol,hok,Od,Od,hz,by rw [hv];simp [yj]⟩) ((.c rfl (.e rfl vA (.of rfl))):vQ _ _) (ho:=(o0 rfl)) ((.of [1,2] rfl):q9 _ _ _) ?_
 rintro ⟨j,a0,cy⟩ hJ
 dsimp only at hJ
 try dsimp only
 obtain ⟨hj,a4,a1,b6,b8,a2,a5⟩:=hJ
 have a9:=yp hob j
 have hg3:=yp a1 (i+j)
 have hpq:=Big.zbT a8 a9
 refine jg 1 rfl<|zx rfl (fun h6=> ?_) (fun h6=> ?_)
 refine qN<|zi<|qe<|zk<|jK 1 rfl<|QL (x0:=((ya b).getD j 0)) 1 j rfl yb qM rfl rfl rfl (by first|rfl|assumption|(simp;omega)|omega) rfl rfl (gD (d:=0) om) (fun b7 o8 a6=> ?_)
 replace a6:=zO.1 a6
 refine zw (zf (j:=0) 0 vJ rfl rfl rfl rfl)<|jD 2 rfl<|kS 3 rfl<|zE (Qj rfl rfl)<|zE (zZ (j:=(i+j)) yb qM rfl rfl rfl om)<|zdA rfl rfl (qi 0 (i+j) rfl vJ rfl rfl (gD (d:=0) om) rfl) (fun _ a7=> ?_)
 replace a7:=zO.1 a7
 refine zE (zY (z:=(a0.getD (i+j) 0)) rfl (by rw [yd];rfl) ye (vu om))<|qJ rfl<|zE (zY (z:=((ya a).getD i 0)) rfl (by rw [yd];rfl) ye (vu om))<|qJ rfl<|zE (zY (z:=((ya b).getD j 0)) rfl (by rw [yd];rfl) ye (vu om))<|zE (qw (z:=(((ya a).getD i 0)*((ya b).getD j 0))) rfl rfl (vu om))<|zE (qm (z:=((a0.getD (i+j) 0)+(((ya a).getD i 0)*((ya b).getD j 0)))) rfl rfl (vu om))<|qJ rfl<|zE (qm (z:=(((a0.getD (i+j) 0)+(((ya a).getD i 0)*((ya b).getD j 0)))+cy)) rfl rfl (vu om))<|vZ 1 rfl<|vM 3 rfl<|zE (Qj rfl rfl)<|qJ rfl<|zE (jk (z:=((((a0.getD (i+j) 0)+(((ya a).getD i 0)*((ya b).getD j 0)))+cy)%1000000000)) rfl rfl om (KG om om))<|zE (zY (z:=((((a0.getD (i+j) 0)+(((ya a).getD i 0)*((ya b).getD j 0)))+cy)%1000000000)) rfl (by rw [ye];rfl) yd (ZU om))<|qJ rfl<|zE (Z6 (z:=((((a0.getD (i+j) 0)+(((ya a).getD i 0)*((ya b).getD j 0)))+cy) / 1000000000)) rfl rfl om (by rw [KF (z:=((((a0.getD (i+j) 0)+(((ya a).getD i 0)*((ya b).getD j 0)))+cy) / 1000000000)) om om];exact vu om))<|zE (zZ (j:=(i+j)) yb qM rfl rfl rfl om)<|vO 0 rfl (qh (j:=(i+j)) (x0:=((((a0.getD (i+j) 0)+(((ya a).getD i 0)*((ya b).getD j 0)))+cy)%1000000000)) (γ0:=()) rfl rfl om rfl rfl qM (fun _ _=>by exact zO.2 om)) (fun _=> .z) (fun _ _=> ?_)
 refine qY 1 rfl<|zG<|zi<|zv<|zE (qj rfl rfl)<|qY 1 rfl<|zW ((j+1),a0.set (i+j) ((a0.getD (i+j) 0+(ya a).getD i 0*(ya b).getD j 0+cy)%1000000000),(a0.getD (i+j) 0+(ya a).getD i 0*(ya b).getD j 0+cy) / 1000000000) (by dsimp only;exact ⟨Oo,by simpa using a4,Big.QW a1 om om,Oo,Oo,fun k hk=>by rw [yy om];exact a2 k om,Big.zcu a5 om om⟩) (by dsimp only;omega) ((.e rfl vA (.of rfl)):vQ _ _) (ho:=((.e (i:=0) rfl vA .n):zJ _ _ _)) ((.of [1,2] rfl):q9 _ _ _)
 have hjb:j=(ya b).length:=Oo
 subst hjb
 have b4:=a5
 refine z7<|ze<|ze<|zn<|zi<|vM 4 rfl<|zE (qm rfl rfl w6)<|qJ rfl<|zE (zY (z:=cy) rfl (by rw [ye];rfl) yd (ZU om))<|zE (zZ (j:=(i+((ya b).length))) yb qM rfl rfl rfl om)<|vO 0 rfl (qh (j:=(i+((ya b).length))) (x0:=cy) (γ0:=()) rfl rfl om rfl rfl qM (fun _ _=>by exact zO.2 om)) (fun _=> .z) (fun _ _=> ?_)
 refine jq<|zG<|zi<|zv<|zE (qj rfl rfl)<|qY 1 rfl<|zW ((i+1),a0.set (i+(ya b).length) cy) (by exact ⟨Oo,by simpa using a4,Big.QW a1 om om,fun k hk=>by rw [yy om];exact a2 k om,Big.za2 b4 om (a2 _ (yF _))⟩) om (mR rfl) ((.e (i:=0) rfl vA .n):zJ _ _ _) ((.of [0,1] rfl))
 have hia:i=(ya a).length:=Oo
 have hfin:yv os=ya (a*b):=Big.JR hok (by rw [hv,hia,List.take_length,yB,yB,yai])
 refine z7<|ze<|ze<|zn<|zi<|jK 1 rfl<|zbQ (A:=[rowA 133 (rI .u32) (Sb b1) (((ya a).length)+((ya b).length)) os]) (F:=[]) (first:=[]) (cap:=[]) rfl rfl rfl (qS rfl) zP (zk7 Kw) (.n) ?_
 rintro ⟨⟩ -
 refine Zp 1 rfl ?_
 have b5:yv os=ya (a*b):=by exact hfin
 rw [b5]
 exact zq rfl ((Sb b1),(((ya a).length)+((ya b).length))) trivial (zj rfl) rfl (o0 rfl) sN
theorem zmZ {a:Nat} {b:Nat} {p1:Option Addr} {c1:Nat} {p2:Option Addr} {c2:Nat} (hb1:(ya a).length≤4398046511104) (hb2:(ya b).length≤4398046511104) (hb3:2≤(ya b).length) (hab:b≤a):CB 256 [.slice p1 ((ya a).length) c1,.slice p2 ((ya b).length) c2] [zI (rI .u32) p1 c1 (ya a),zI (rI .u32) p2 c2 (ya b)] (Y:=(Option Addr)×Nat×(Option Addr)×Nat) (fun y=> .tuple #[.slice (y.1) ((ya (a / b)).length) (y.2.1),.slice (y.2.2.1) ((ya (a%b)).length) (y.2.2.2)]) (fun y=>[zI (rI .u32) (y.1) (y.2.1) (ya (a / b)),zI (rI .u32) (y.2.2.1) (y.2.2.2) (ya (a%b))]):=by
 refine zg Tryz.func256 rfl rfl (fun c=> ?_)
 show vm _ _ _ _ _ [(0,.slice p1 ((ya a).length) c1),(1,.slice p2 ((ya b).length) c2)] [] [zI (rI .u32) p1 c1 (ya a),zI (rI .u32) p2 c2 (ya b)]
 refine zN 0 rfl (fun hL0=> ?_)
 refine zN 1 rfl (fun hL1=> ?_)
 have hob:=yq b
 have htop:=yp hob ((ya b).length - 1)
 have hdt:=Big.zak (b:=b) (n:=(ya b).length - 1) om
 have g6:=Big.Za hab
 have hq1:0≤1000000000 / ((ya b).getD ((ya b).length - 1) 0+1):=Int.ediv_nonneg om om
 have hq2:1000000000 / ((ya b).getD ((ya b).length - 1) 0+1)≤500000000:=Int.ediv_le_of_le_mul om om
 refine vg<|kS 2 rfl<|k40 3 rfl<|zE (qx (z:=((((ya b).length - 1):Nat):Int)) rfl rfl (Q9 om))<|qH 1 ((ya b).length - 1) rfl yb qM rfl zL rfl rfl (gD (d:=0) om) (fun b1 o2 c5=> ?_) (x0:=((ya b).getD ((ya b).length - 1) 0))
 replace c5:=zO.1 c5
 refine zw (zf (j:=0) 0 vJ rfl rfl rfl rfl)<|zE (zY (z:=((ya b).getD ((ya b).length - 1) 0)) rfl (by rw [yd];rfl) ye (vu om))<|zE (qm (z:=(((ya b).getD ((ya b).length - 1) 0)+1)) rfl rfl (vu om))<|zE (Z6 (z:=(1000000000 / (((ya b).getD ((ya b).length - 1) 0)+1))) rfl rfl om (by rw [KF (z:=(1000000000 / (((ya b).getD ((ya b).length - 1) 0)+1))) om om];exact vu om))<|zE (zY (z:=(1000000000 / (((ya b).getD ((ya b).length - 1) 0)+1))) rfl (by rw [ye];rfl) yd (ZU om))<|jn 1 rfl ?_
 obtain ⟨s,hs⟩:∃s:Nat,s=(1000000000 / ((ya b).getD ((ya b).length - 1) 0+1)).toNat:=⟨_,rfl⟩
 obtain ⟨b8,hs2,c6⟩:=Big.zdK (n:=(ya b).length - 1) om hs
 have hsd:=Big.zcB b8 (by omega:s<1000000000)
 have hsl:(ya s).length=1:=by rw [hsd];rfl
 have e4:((1000000000 / (((ya b).getD ((ya b).length - 1) 0)+1)):Int)=((s:Nat):Int):=Oo
 rw [e4]
 refine vM 2 rfl<|qZ (z6 (enc:=fun z:Int=>[.int .u32 z]) (ok:=Vb .u32) (h1:=fun _=>rfl) (h2:=fun _=>rfl) (k:=1) yb vB rfl dd dd dd (.c (x:=((s:Nat):Int)) rfl rfl (fun _ _=>by exact zO.2 om) .n)) (fun b5 _=> ?_)
 refine qt 0 rfl .z ?_
 have e6:[((s:Nat):Int)]=ya s:=by exact hsd.symm
 rw [e6]
 have e7:(.slice (Sb b5) 1 1:Value)= .slice (Sb b5) ((ya s).length) 1:=by rw [hsl]
 rw [e7]
 refine zm (q7 rfl rfl) zP (zh0 qB Kw) (vj 2 0) ?_
 rintro ⟨p38,c39⟩ -
 dsimp only [aq,nq,cq]
 refine jD 1 rfl<|kS 2 rfl<|qZ (z6 (enc:=fun z:Int=>[.int .u32 z]) (ok:=Vb .u32) (h1:=fun _=>rfl) (h2:=fun _=>rfl) (k:=1) yb vB rfl dd dd dd (.c (x:=((s:Nat):Int)) rfl rfl (fun _ _=>by exact zO.2 om) .n)) (fun c7 _=> ?_)
 refine qt 0 rfl .z ?_
 have e8:[((s:Nat):Int)]=ya s:=by exact hsd.symm
 rw [e8]
 have e9:(.slice (Sb c7) 1 1:Value)= .slice (Sb c7) ((ya s).length) 1:=by rw [hsl]
 rw [e9]
 refine zm (q7 rfl rfl) zP (zdX qB Kw) (vj 4 0) ?_
 rintro ⟨b4,b6⟩ -
 dsimp only [aq,nq,cq]
 refine jn 1 rfl ?_
 obtain ⟨A,hA⟩:∃z,z=a*s:=⟨_,rfl⟩
 rw [← hA]
 obtain ⟨V,hV⟩:∃z,z=b*s:=⟨_,rfl⟩
 rw [← hV]
 have hAl:(ya a).length≤(ya A).length:=by rw [hA];exact Big.WQ b8
 have g7:(ya A).length≤(ya a).length+1:=by have h8:=Big.zcA a s;rw [hsl] at h8;rw [hA];exact h8
 obtain ⟨m,hm⟩:∃z,(ya V).length=z+2:=⟨(ya b).length - 2,by rw [hV,c6];omega⟩
 have hmb:(ya b).length=m+2:=by rw [hV,c6] at hm;omega
 have f0:(ya V).length=(m+2):=by exact hm
 rw [f0]
 refine k24 3 rfl<|qJ rfl<|qZ (z6 (enc:=fun z:Int=>[.int .u32 z]) (ok:=Vb .u32) (h1:=fun _=>rfl) (h2:=fun _=>rfl) (k:=1) yb vB rfl dd dd dd (.c (x:=0) rfl rfl (fun _ _=>by exact zO.2 om) .n)) (fun b16 _=> ?_)
 refine qt 0 rfl .z<|vO 2 rfl (qT 0 rfl yb vB dd rfl rfl zL rfl zL om om) (fun _=>(.s (.s .z))) ?_
 rintro ⟨a4,a5⟩ -
 dsimp only [aq,nq,cq]
 refine jn 1 rfl<|k12 5 rfl<|zx rfl (fun f1=> ?_) (fun f1=> ?_)
 exact absurd ‹_› om
 refine vY ?_
 obtain ⟨M,hM⟩:∃z,z=((ya A).length)+1:=⟨_,rfl⟩
 rw [← hM]
 refine zv<|kS 3 rfl<|zE (qx (z:=(((M - (m+2)):Nat):Int)) rfl rfl (Q9 om))<|qZ (vS (r:=rI .u32) (k:=(M - (m+2))) (x0:=0) (γ0:=()) yb vB rfl rfl rfl rfl om om rfl (fun g _=>by exact zO.2 dd) dd) (fun a6 _=> ?_)
 refine jn 1 rfl<|qe ?_
 have hMl:m+3≤M:=Oo
 have hLg:Big.LgI M (m+2) ((A:Nat):Int) ((V:Nat):Int) (M - (m+2)) (ya A++[0]) []:=Big.LgI.start (Big.Qz (yq A) dd dd) (by simp [hM]) (by rw [Big.QN,yB];simp) hm om (by rw [Big.QN,yB,hM,yad];simpa using Big.Ql A) om
 refine vM 3 rfl<|zE (qx rfl rfl w6)<|zE (qx rfl rfl w6)<|vZ 1 rfl<|zk<|z5 (X:=Nat×(List Int)×(List Int)) (fun x=>Big.LgI M (m+2) ((A:Nat):Int) ((V:Nat):Int) x.1 x.2.1 x.2.2) (fun x=>[(10,.int .i64 (((x.1:Nat):Int) - 1))]) [4,7,9,8,6] (fun x=>[rowA 133 (rI .u32) (Sb a6) (M - (m+2)) (yI x.1 0++x.2.2),rowA 133 (rI .u32) a4 a5 (x.2.1)]) (fun x=>[]) [1] (fun x=>x.1) ((M - (m+2)),(ya A++[0]),([]:List Int)) (by exact hLg) (.e rfl (congrArg (Value.int .i64) om) .n) ((.e (i:=0) rfl (by simp) (.e (i:=2) rfl (by simp) .n)):zJ _ _ _) sN ?_
 rintro ⟨jj,u,qs⟩ hI
 replace hI:Big.LgI M (m+2) ((A:Nat):Int) ((V:Nat):Int) jj u qs:=hI
 try dsimp only
 refine qe<|k12 2 rfl<|zx rfl (fun hj=> ?_) (fun hj=> ?_)
 obtain ⟨j,rfl⟩:∃j,jj=j+1:=⟨jj - 1,Oo⟩
 have f2:(((((j+1):Nat):Int) - 1):Int)=((j:Nat):Int):=Oo
 rw [f2]
 have hjM:=hI.jle
 have hul:=hI.ul
 have hT:=hI.tp hm
 have hu2:=hT.a2
 have hu1:=hT.a1
 have hu0:=hT.a0
 have g8:=hT.vt1
 have g9:=hT.vt2
 have f3:=hT.vs0
 have f4:=hT.vs1
 have hgst:=hT.start
 have h0:=Big.Gs.le hT hgst
 have h3:=hgst.g0
 have h4:=hgst.r0
 have hrlt:=yac ((u.getD (j+(m+2)) 0)*1000000000+(u.getD (j+(m+1)) 0)) (show 0<((ya V).getD (m+1) 0) by omega)
 refine vY<|zk<|qe<|Jo 100000<|zQ 0 rfl rfl<|zQ 1 rfl rfl<|zQ 2 rfl rfl<|zC 3 rfl (qm (z:=(((j+(m+2)):Nat):Int)) rfl rfl (Q9 om))<|zQ 7 rfl rfl<|zQ 8 rfl rfl<|zQ 9 rfl rfl<|zC 10 rfl (qm (z:=(((j+(m+2)):Nat):Int)) rfl rfl (Q9 om))<|zC 11 rfl (qx (z:=(((j+(m+1)):Nat):Int)) rfl rfl (Q9 om))<|vE 12 rfl (qQ 1 (j+(m+1)) rfl yb qM rfl zL rfl rfl om)<|jc 13 rfl (qi 1 (j+(m+1)) rfl vJ rfl rfl (gD (d:=0) om) rfl) (fun _ c8=> ?_)
 replace c8:=zO.1 c8
 refine zC 14 rfl (zY (z:=(u.getD (j+(m+1)) 0)) rfl (by rw [yd];rfl) ye (vu om))<|zt 4 (zmp 1 rfl rfl rfl rfl rfl (.c rfl (.c rfl .n)) zP (zeP (p:=a4) (n:=M) (cap:=a5) (l:=u) (i:=(j+(m+2))) (hn:=Kw) (hi:=Kw)) (.c (j:=0) rfl .n) ?_)
 refine zC 5 rfl (zY (z:=u.getD (j+(m+2)) 0) rfl (by rw [yd];rfl) ye (vu om))<|zC 6 rfl (qw (z:=(u.getD (j+(m+2)) 0*1000000000)) rfl rfl (vu om))<|zC 15 rfl (qm (z:=((u.getD (j+(m+2)) 0*1000000000)+(u.getD (j+(m+1)) 0))) rfl rfl (vu om))<|zC 16 rfl (zT rfl)<|zU kr<|zi<|qe<|Jo 100000<|zQ 0 rfl rfl<|zQ 1 rfl rfl<|zQ 2 rfl rfl<|zC 3 rfl (qx (z:=(((m+1):Nat):Int)) rfl rfl (Q9 om))<|jO 4 rfl 0 (m+1) rfl yb qM rfl zL rfl rfl (gD (d:=0) om) (fun b23 o24 c9=> ?_) (x0:=((ya V).getD (m+1) 0))
 replace c9:=zO.1 c9
 refine vE 5 rfl (zf (j:=0) 0 vJ rfl rfl rfl rfl)<|zC 6 rfl (zY (z:=((ya V).getD (m+1) 0)) rfl (by rw [yd];rfl) ye (vu om))<|zC 7 rfl (Z6 (z:=(((u.getD (j+(m+2)) 0*1000000000)+(u.getD (j+(m+1)) 0)) / ((ya V).getD (m+1) 0))) rfl rfl om (by rw [KF (z:=(((u.getD (j+(m+2)) 0*1000000000)+(u.getD (j+(m+1)) 0)) / ((ya V).getD (m+1) 0))) om om];exact vu om))<|zQ 8 rfl rfl<|zQ 9 rfl rfl<|zQ 10 rfl rfl<|zC 11 rfl (qx (z:=(((m+1):Nat):Int)) rfl rfl (Q9 om))<|jO 12 rfl 1 (m+1) rfl yb qM rfl zL rfl rfl (gD (d:=0) om) (fun b26 o27 d0=> ?_) (x0:=((ya V).getD (m+1) 0))
 replace d0:=zO.1 d0
 refine vE 13 rfl (zf (j:=0) 0 vJ rfl rfl rfl rfl)<|zC 14 rfl (zY (z:=((ya V).getD (m+1) 0)) rfl (by rw [yd];rfl) ye (vu om))<|zC 15 rfl (jk (z:=(((u.getD (j+(m+2)) 0*1000000000)+(u.getD (j+(m+1)) 0))%((ya V).getD (m+1) 0))) rfl rfl om (KG om om))<|zC 16 rfl (zT rfl)<|zC 17 rfl (zT rfl)<|zU kr<|zi<|ji (X:=Int) (fun x=>(0≤x∧x<1000000000)∧(yj (u.drop j))<(x+1)*(V:Int)∧x*(V:Int)<(yj (u.drop j))+(V:Int)) (fun x=>[(12,.int .u64 x),(10,Vi j),(4,.slice (Sb a6) (M - (m+2)) (M - (m+2))),(7,.slice a4 M a5),(9,Vi (m+2)),(8,.slice b4 (m+2) b6),(6,.int .u32 ((s:Nat):Int))]) (fun x=>[rowA 133 (rI .u32) (Sb a6) (M - (m+2)) (yI (j+1) 0++qs),rowA 133 (rI .u32) a4 a5 u]) (fun x=>[zI (rI .u32) b4 b6 (ya V)]) ?_ ?_
 refine zk<|z5 (X:=Int×Int) (fun x=>Big.Gs (yj (u.drop j)) (V:Int) ((ya V).getD (m+1) 0) ((u.getD (j+(m+2)) 0)*1000000000+(u.getD (j+(m+1)) 0)) x.1 x.2∧x.2<1000000000) (fun x=>[(13,.int .u64 (x.2)),(12,.int .u64 (x.1))]) [10,4,7,9,8,6] (fun x=>[rowA 133 (rI .u32) (Sb a6) (M - (m+2)) (yI (j+1) 0++qs),rowA 133 (rI .u32) a4 a5 u]) (fun x=>[]) [2] (fun x=>x.1.toNat) ((((u.getD (j+(m+2)) 0*1000000000)+(u.getD (j+(m+1)) 0)) / ((ya V).getD (m+1) 0)),(((u.getD (j+(m+2)) 0*1000000000)+(u.getD (j+(m+1)) 0))%((ya V).getD (m+1) 0))) (by exact ⟨hgst,Oo⟩) (.of rfl) ((.of [0,0] rfl):zJ _ _ _) sN ?_
 rintro ⟨g,r⟩ hG
 replace hG:Big.Gs (yj (u.drop j)) (V:Int) ((ya V).getD (m+1) 0) ((u.getD (j+(m+2)) 0)*1000000000+(u.getD (j+(m+1)) 0)) g r∧r<1000000000:=hG
 try dsimp only
 obtain ⟨hGs,hr9⟩:=hG
 have hgl:=Big.Gs.le hT hGs
 have a7:=hGs.g0
 have hr0:=hGs.r0
 have hgm:=Big.zmq a7 hgl.1 f3 f4
 refine qe<|ji (X:=Unit) (fun x=>True) (fun x=>[(123,.bool (decide ((1000000000≤g)∨(((r*1000000000)+(u.getD (j+m) 0))<(g*((ya V).getD m 0)))))),(13,.int .u64 r),(12,.int .u64 g),(10,Vi j),(4,.slice (Sb a6) (M - (m+2)) (M - (m+2))),(7,.slice a4 M a5),(9,Vi (m+2)),(8,.slice b4 (m+2) b6),(6,.int .u32 ((s:Nat):Int))]) (fun x=>[rowA 133 (rI .u32) (Sb a6) (M - (m+2)) (yI (j+1) 0++qs),rowA 133 (rI .u32) a4 a5 u]) (fun x=>[zI (rI .u32) b4 b6 (ya V)]) ?_ ?_
 refine Jo 100000<|zQ 0 rfl rfl<|zC 1 rfl (zlT rfl rfl)<|zcl 2 rfl rfl kr kr rfl rfl (qU rfl) (fun hge=> ?_) (fun hge=> ?_)
 refine qO 3 rfl<|qO 4 rfl<|qO 5 rfl<|qO 6 rfl<|qO 7 rfl<|qO 8 rfl<|qO 9 rfl<|qO 10 rfl<|qO 11 rfl<|qO 12 rfl<|qO 13 rfl<|qO 14 rfl<|qO 15 rfl<|qO 16 rfl<|qO 17 rfl<|qO 18 rfl<|qO 19 rfl<|qO 20 rfl<|qO 21 rfl<|qO 22 rfl<|zC 23 rfl (jx rfl rfl)<|zU kr ?_
 exact qL () Qn ((.e rfl (congrArg Value.bool (by exact (decide_eq_true (.inl hge)).symm)) (.of rfl))) ((.of [0,0] rfl):zJ _ _ _) (s0 rfl)
 refine zQ 3 rfl rfl<|zQ 4 rfl rfl<|zQ 5 rfl rfl<|zC 6 rfl (qx (z:=((m:Nat):Int)) rfl rfl (Q9 om))<|jO 7 rfl 0 m rfl yb qM rfl zL rfl rfl (gD (d:=0) om) (fun b29 o30 d1=> ?_) (x0:=((ya V).getD m 0))
 replace d1:=zO.1 d1
 refine vE 8 rfl (zf (j:=0) 0 vJ rfl rfl rfl rfl)<|zC 9 rfl (zY (z:=((ya V).getD m 0)) rfl (by rw [yd];rfl) ye (vu om))<|zC 10 rfl (qw (z:=(g*((ya V).getD m 0))) rfl rfl (vu om))<|zQ 11 rfl rfl<|zC 12 rfl (qw (z:=(r*1000000000)) rfl rfl (vu om))<|zQ 13 rfl rfl<|zQ 14 rfl rfl<|zQ 15 rfl rfl<|zC 16 rfl (qm (z:=(((j+(m+2)):Nat):Int)) rfl rfl (Q9 om))<|zC 17 rfl (qx (z:=(((j+m):Nat):Int)) rfl rfl (Q9 om))<|vE 18 rfl (qQ 1 (j+m) rfl yb qM rfl zL rfl rfl om)<|jc 19 rfl (qi 1 (j+m) rfl vJ rfl rfl (gD (d:=0) om) rfl) (fun _ d4=> ?_)
 replace d4:=zO.1 d4
 refine zC 20 rfl (zY (z:=(u.getD (j+m) 0)) rfl (by rw [yd];rfl) ye (vu om))<|zC 21 rfl (qm (z:=((r*1000000000)+(u.getD (j+m) 0))) rfl rfl (vu om))<|zC 22 rfl (zhr rfl rfl)<|zC 23 rfl (jx rfl rfl)<|zU kr ?_
 exact qL () Qn ((.e rfl (congrArg Value.bool (by exact decide_eq_decide.2 ⟨fun h=> .inr h,fun h=>h.resolve_left hge⟩)) (.of rfl))) ((.of [0,0] rfl):zJ _ _ _) ((.c (j:=1) rfl .n))
 rintro ⟨⟩ -
 try dsimp only
 refine zx rfl (fun hgs=> ?_) (fun hgs=> ?_)
 have hst:=hGs.step hT hgs
 have h5:=hst.1
 refine kk6<|zk<|qe<|vM 1 rfl<|zE (qx (z:=(g - 1)) rfl rfl (vu om))<|kS 1 rfl<|k40 3 rfl<|zE (qx (z:=(((m+1):Nat):Int)) rfl rfl (Q9 om))<|qH 0 (m+1) rfl yb qM rfl zL rfl rfl (gD (d:=0) om) (fun b33 o34 d5=> ?_) (x0:=((ya V).getD (m+1) 0))
 replace d5:=zO.1 d5
 refine zw (zf (j:=0) 0 vJ rfl rfl rfl rfl)<|zE (zY (z:=((ya V).getD (m+1) 0)) rfl (by rw [yd];rfl) ye (vu om))<|zE (qm (z:=(r+((ya V).getD (m+1) 0))) rfl rfl (vu om))<|jD 1 rfl<|vZ 2 rfl<|zx rfl (fun hbr=> ?_) (fun hbr=> ?_)
 refine z7<|zef rfl<|ze<|zn ?_
 exact qL (g - 1) (by have b7:=(hGs.step hT hgs).2;have b9:=Big.Gs.broke hT b7 hbr;exact ⟨⟨b7.g0,b9.1⟩,b7.up,Big.Gs.fin hT b7 b9.1 b9.2⟩) (mR rfl) ((.of [0,0] rfl):zJ _ _ _) ((.c (j:=1) rfl .n))
 refine qN<|zG<|zW ((g - 1),(r+((ya V).getD (m+1) 0))) (by exact ⟨(hGs.step hT hgs).2,Oo⟩) (by have:=(hGs.step hT hgs).1;show (g - 1).toNat<g.toNat;omega) (mR rfl) ((.of [0,0] rfl):zJ _ _ _) ((.c (j:=1) rfl .n))
 refine z7<|ze<|ze<|zn ?_
 exact qL g (by exact ⟨⟨a7,Oo⟩,hGs.up,Big.Gs.fin hT hGs om om⟩) (mR rfl) ((.of [0,0] rfl):zJ _ _ _) (s0 rfl)
 rintro g hC
 replace hC:(0≤g∧g<1000000000)∧(yj (u.drop j))<(g+1)*(V:Int)∧g*(V:Int)<(yj (u.drop j))+(V:Int):=hC
 try dsimp only
 obtain ⟨⟨a7,a9⟩,hup,hdn⟩:=hC
 refine jg 2 rfl<|k12 2 rfl<|zk<|z5 (X:=Nat×(List Int)×Int×Int) (fun x=>x.1≤m+2∧Big.MsI u j g (ya V) x.1 x.2.1 x.2.2.1 x.2.2.2) (fun x=>[(15,.int .u64 (x.2.2.2)),(14,.int .i64 (x.2.2.1)),(137,Vi x.1)]) [136,12,10,4,7,9,8,6] (fun x=>[rowA 133 (rI .u32) (Sb a6) (M - (m+2)) (yI (j+1) 0++qs),rowA 133 (rI .u32) a4 a5 (x.2.1)]) (fun x=>[]) [0] (fun x=>(m+2) - x.1) (0,u,0,0) (by exact ⟨yO _,Big.MsI.start hI.uo j g _⟩) (.c rfl (.c rfl (.e rfl vA .n))) ((.of [0,0] rfl):zJ _ _ _) sN ?_
 rintro ⟨i,w,bo,ca⟩ hMM
 replace hMM:i≤m+2∧Big.MsI u j g (ya V) i w bo ca:=hMM
 try dsimp only
 obtain ⟨hile,a3⟩:=hMM
 have hb0:=a3.b0
 have hb1:=a3.b1
 have f5:=a3.c0
 have f6:=a3.c1
 have hwl:=a3.len
 have hwo:=yp a3.ok (j+i)
 have hvi:=yp (yq V) i
 have hca:=Big.zf2 ⟨a7,a9⟩ hvi ⟨f5,f6⟩
 have hgx:=Int.mul_nonneg a7 hvi.1
 refine jg 1 rfl<|zx rfl (fun hi=> ?_) (fun hi=> ?_)
 refine vY<|zk<|jS 2 rfl<|kS 3 rfl<|qH 0 i rfl yb qM rfl zL rfl rfl (gD (d:=0) om) (fun b36 o37 d6=> ?_) (x0:=((ya V).getD i 0))
 replace d6:=zO.1 d6
 refine zw (zf (j:=0) 0 vJ rfl rfl rfl rfl)<|zE (zY (z:=((ya V).getD i 0)) rfl (by rw [yd];rfl) ye (vu om))<|zE (qw (z:=(g*((ya V).getD i 0))) rfl rfl (vu om))<|qJ rfl<|zE (qm (z:=((g*((ya V).getD i 0))+ca)) rfl rfl (vu om))<|kS 1 rfl<|k40 1 rfl<|zE (Z6 (z:=(((g*((ya V).getD i 0))+ca) / 1000000000)) rfl rfl om (by rw [KF (z:=(((g*((ya V).getD i 0))+ca) / 1000000000)) om om];exact vu om))<|kS 1 rfl<|k40 3 rfl<|zE (qm (z:=(((j+i):Nat):Int)) rfl rfl (Q9 om))<|zw (qQ 1 (j+i) rfl yb qM rfl zL rfl rfl om)<|vX (qi 1 (j+i) rfl vJ rfl rfl (gD (d:=0) om) rfl) (fun _ d7=> ?_)
 replace d7:=zO.1 d7
 refine zE (zY (z:=(w.getD (j+i) 0)) rfl (by rw [yd];rfl) yl (Q9 om))<|qJ rfl<|zE (qx rfl rfl w6)<|qJ rfl<|zE (jk (z:=(((g*((ya V).getD i 0))+ca)%1000000000)) rfl rfl om (KG om om))<|zE (zY (z:=(((g*((ya V).getD i 0))+ca)%1000000000)) rfl (by rw [ye];rfl) yl (Q9 om))<|zE (qx rfl rfl w6)<|jD 1 rfl<|jn 1 rfl<|k12 2 rfl<|zx rfl (fun hneg=> ?_) (fun hneg=> ?_)
 refine zv<|qJ rfl<|zE (qm (z:=((((w.getD (j+i) 0) - bo) - (((g*((ya V).getD i 0))+ca)%1000000000))+1000000000)) rfl rfl (Q9 om))<|kS 2 rfl<|Vc<|zv<|kS 3 rfl<|zE (qm (z:=(((j+i):Nat):Int)) rfl rfl (Q9 om))<|qJ rfl<|zE (zY (z:=((((w.getD (j+i) 0) - bo) - (((g*((ya V).getD i 0))+ca)%1000000000))+1000000000)) rfl (by rw [yl];rfl) yd (ZU om))<|zw (qQ 1 (j+i) rfl yb qM rfl zL rfl rfl om)<|vO 1 rfl (qh (j:=(j+i)) (x0:=((((w.getD (j+i) 0) - bo) - (((g*((ya V).getD i 0))+ca)%1000000000))+1000000000)) (γ0:=()) rfl rfl om rfl rfl qM (fun _ _=>by exact zO.2 om)) (fun _=>(.s .z)) (fun _ _=> ?_)
 refine jq<|zG<|zi<|zv<|zE (qm (z:=(((i+1):Nat):Int)) rfl rfl (Q9 om))<|qJ rfl<|jq<|zW ((i+1),(w.set (j+i) ((((w.getD (j+i) 0) - bo) - (((g*((ya V).getD i 0))+ca)%1000000000))+1000000000)),1,(((g*((ya V).getD i 0))+ca) / 1000000000)) (by dsimp only;exact ⟨Oo,a3.step ⟨a7,a9⟩ (yq V) om om ⟨Oo,Oo⟩ ⟨Od,Od⟩⟩) (by dsimp only;omega) (mR rfl) (ho:=((.of [0,0] rfl):zJ _ _ _)) ((.c (j:=1) rfl .n):q9 _ _ _)
 refine kk6<|zv<|kS 3 rfl<|zE (qm (z:=(((j+i):Nat):Int)) rfl rfl (Q9 om))<|qJ rfl<|zE (zY (z:=(((w.getD (j+i) 0) - bo) - (((g*((ya V).getD i 0))+ca)%1000000000))) rfl (by rw [yl];rfl) yd (ZU om))<|zw (qQ 1 (j+i) rfl yb qM rfl zL rfl rfl om)<|vO 1 rfl (qh (j:=(j+i)) (x0:=(((w.getD (j+i) 0) - bo) - (((g*((ya V).getD i 0))+ca)%1000000000))) (γ0:=()) rfl rfl om rfl rfl qM (fun _ _=>by exact zO.2 om)) (fun _=>(.s .z)) (fun _ _=> ?_)
 refine jq<|zG<|zi<|zv<|zE (qm (z:=(((i+1):Nat):Int)) rfl rfl (Q9 om))<|qJ rfl<|jq<|zW ((i+1),(w.set (j+i) (((w.getD (j+i) 0) - bo) - (((g*((ya V).getD i 0))+ca)%1000000000))),0,(((g*((ya V).getD i 0))+ca) / 1000000000)) (by dsimp only;exact ⟨Oo,a3.step ⟨a7,a9⟩ (yq V) om om ⟨Oo,Oo⟩ ⟨Od,Od⟩⟩) (by dsimp only;omega) (mR rfl) (ho:=((.of [0,0] rfl):zJ _ _ _)) ((.c (j:=1) rfl .n):q9 _ _ _)
 have c3:Big.MsI u j g (ya V) (m+2) w bo ca:=by have h8:i=m+2:=om;exact h8 ▸ a3
 have h6:=yp a3.ok (j+(m+2))
 refine z7<|ze<|ze<|zn<|zi<|jK 3 rfl<|zE (qm rfl rfl w6)<|zw (qQ 1 (j+(m+2)) rfl yb qM rfl zL rfl rfl om)<|vX (qi 1 (j+(m+2)) rfl vJ rfl rfl (gD (d:=0) om) rfl) (fun _ d8=> ?_)
 replace d8:=zO.1 d8
 refine zE (zY (z:=(w.getD (j+(m+2)) 0)) rfl (by rw [yd];rfl) yl (Q9 om))<|qJ rfl<|zE (qx rfl rfl w6)<|qJ rfl<|zE (zY (z:=ca) rfl (by rw [ye];rfl) yl (Q9 om))<|zE (qx rfl rfl w6)<|jn 1 rfl<|k12 2 rfl<|zx rfl (fun hd=> ?_) (fun hd=> ?_)
 have hg9:=hI.neg1 c3 hm hd
 refine jK 3 rfl<|zE (qm rfl rfl w6)<|qJ rfl<|zE (qm rfl rfl w6)<|zE (zY (z:=((((w.getD (j+(m+2)) 0) - bo) - ca)+1000000000)) rfl (by rw [yl];rfl) yd (ZU om))<|zw (qQ 1 (j+(m+2)) rfl yb qM rfl zL rfl rfl om)<|vO 1 rfl (qh (j:=(j+(m+2))) (x0:=((((w.getD (j+(m+2)) 0) - bo) - ca)+1000000000)) (γ0:=()) rfl rfl om rfl rfl qM (fun _ _=>by exact zO.2 om)) (fun _=>(.s .z)) (fun _ _=> ?_)
 refine k40 1 rfl<|zE (qx (z:=(g - 1)) rfl rfl (vu om))<|jD 1 rfl<|jn 1 rfl<|k12 2 rfl<|zk<|z5 (X:=Nat×(List Int)×Int) (fun x=>x.1≤m+2∧Big.AbI (w.set (j+(m+2)) ((((w.getD (j+(m+2)) 0) - bo) - ca)+1000000000)) j (ya V) x.1 x.2.1 x.2.2) (fun x=>[(20,.int .u32 (x.2.2)),(201,Vi x.1)]) [200,12,10,4,7,9,8,6] (fun x=>[rowA 133 (rI .u32) (Sb a6) (M - (m+2)) (yI (j+1) 0++qs),rowA 133 (rI .u32) a4 a5 (x.2.1)]) (fun x=>[]) [0] (fun x=>(m+2) - x.1) (0,(w.set (j+(m+2)) ((((w.getD (j+(m+2)) 0) - bo) - ca)+1000000000)),0) (by exact ⟨yO _,Big.AbI.start (Big.QW a3.ok om om) _ _⟩) (.c rfl (.e rfl vA .n)) ((.c (i:=0) rfl (.e (i:=0) rfl vA .n)):zJ _ _ _) sN ?_
 rintro ⟨i2,xs,cc⟩ hAA
 replace hAA:i2≤m+2∧Big.AbI (w.set (j+(m+2)) ((((w.getD (j+(m+2)) 0) - bo) - ca)+1000000000)) j (ya V) i2 xs cc:=hAA
 try dsimp only
 obtain ⟨hile2,a8⟩:=hAA
 have hk0:=a8.c0
 have hk1:=a8.c1
 have hxl:=a8.len
 rw [yM] at hxl
 have hxo:=yp a8.ok (j+i2)
 have h7:=yp (yq V) i2
 refine jg 1 rfl<|zx rfl (fun hi=> ?_) (fun hi=> ?_)
 refine vY<|zk<|vg<|kS 2 rfl<|ZI<|Jo 100000<|zQ 0 rfl rfl<|zQ 1 rfl rfl<|zQ 2 rfl rfl<|zC 3 rfl (qm (z:=(((j+i2):Nat):Int)) rfl rfl (Q9 om))<|vE 4 rfl (qQ 1 (j+i2) rfl yb qM rfl zL rfl rfl om)<|jc 5 rfl (qi 1 (j+i2) rfl vJ rfl rfl (gD (d:=0) om) rfl) (fun _ d9=> ?_)
 replace d9:=zO.1 d9
 refine zQ 6 rfl rfl<|zQ 7 rfl rfl<|jO 8 rfl 0 i2 rfl yb qM rfl zL rfl rfl (gD (d:=0) om) (fun b42 o43 e0=> ?_) (x0:=((ya V).getD i2 0))
 replace e0:=zO.1 e0
 refine vE 9 rfl (zf (j:=0) 0 vJ rfl rfl rfl rfl)<|zC 10 rfl (qm (z:=((xs.getD (j+i2) 0)+((ya V).getD i2 0))) rfl rfl (ZU om))<|zQ 11 rfl rfl<|zC 12 rfl (qm (z:=(((xs.getD (j+i2) 0)+((ya V).getD i2 0))+cc)) rfl rfl (ZU om))<|zC 13 rfl (zT rfl)<|zU kr<|zi<|jg 1 rfl<|k12 2 rfl<|zx rfl (fun hcy=> ?_) (fun hcy=> ?_)
 refine zv<|qJ rfl<|zE (qx (z:=((((xs.getD (j+i2) 0)+((ya V).getD i2 0))+cc) - 1000000000)) rfl rfl (ZU om))<|kS 2 rfl<|Vc<|zv<|kS 3 rfl<|zE (qm (z:=(((j+i2):Nat):Int)) rfl rfl (Q9 om))<|qJ rfl<|zw (qQ 1 (j+i2) rfl yb qM rfl zL rfl rfl om)<|vO 1 rfl (qh (j:=(j+i2)) (x0:=((((xs.getD (j+i2) 0)+((ya V).getD i2 0))+cc) - 1000000000)) (γ0:=()) rfl rfl om rfl rfl qM (fun _ _=>by exact zO.2 om)) (fun _=>(.s .z)) (fun _ _=> ?_)
 refine jq<|zG<|zi<|zv<|zE (qm (z:=(((i2+1):Nat):Int)) rfl rfl (Q9 om))<|qJ rfl<|jq<|zW ((i2+1),(xs.set (j+i2) ((((xs.getD (j+i2) 0)+((ya V).getD i2 0))+cc) - 1000000000)),1) (by dsimp only;exact ⟨Oo,a8.step (by rw [yM];omega) om ⟨Oo,Oo⟩ ⟨Od,Od⟩⟩) (by dsimp only;omega) (mR rfl) (ho:=((.of [0,0] rfl):zJ _ _ _)) ((.c (j:=1) rfl .n):q9 _ _ _)
 refine kk6<|zv<|kS 3 rfl<|zE (qm (z:=(((j+i2):Nat):Int)) rfl rfl (Q9 om))<|qJ rfl<|zw (qQ 1 (j+i2) rfl yb qM rfl zL rfl rfl om)<|vO 1 rfl (qh (j:=(j+i2)) (x0:=(((xs.getD (j+i2) 0)+((ya V).getD i2 0))+cc)) (γ0:=()) rfl rfl om rfl rfl qM (fun _ _=>by exact zO.2 om)) (fun _=>(.s .z)) (fun _ _=> ?_)
 refine jq<|zG<|zi<|zv<|zE (qm (z:=(((i2+1):Nat):Int)) rfl rfl (Q9 om))<|qJ rfl<|jq<|zW ((i2+1),(xs.set (j+i2) (((xs.getD (j+i2) 0)+((ya V).getD i2 0))+cc)),0) (by dsimp only;exact ⟨Oo,a8.step (by rw [yM];omega) om ⟨Oo,Oo⟩ ⟨Od,Od⟩⟩) (by dsimp only;omega) (mR rfl) (ho:=((.of [0,0] rfl):zJ _ _ _)) ((.c (j:=1) rfl .n):q9 _ _ _)
 have f7:Big.AbI (w.set (j+(m+2)) ((((w.getD (j+(m+2)) 0) - bo) - ca)+1000000000)) j (ya V) (m+2) xs cc:=by have h8:i2=m+2:=om;exact h8 ▸ a8
 have h9:=yp a8.ok (j+(m+2))
 refine z7<|ze<|ze<|zn<|zi<|vM 3 rfl<|zE (qm rfl rfl w6)<|kS 3 rfl<|zE (qm rfl rfl w6)<|zw (qQ 1 (j+(m+2)) rfl yb qM rfl zL rfl rfl om)<|vX (qi 1 (j+(m+2)) rfl vJ rfl rfl (gD (d:=0) om) rfl) (fun _ e3=> ?_)
 replace e3:=zO.1 e3
 refine qJ rfl<|zE (qm (z:=((xs.getD (j+(m+2)) 0)+cc)) rfl rfl (ZU om))<|zE (jk (z:=(((xs.getD (j+(m+2)) 0)+cc)%1000000000)) rfl rfl om (KG om om))<|zw (qQ 1 (j+(m+2)) rfl yb qM rfl zL rfl rfl om)<|vO 1 rfl (qh (j:=(j+(m+2))) (x0:=(((xs.getD (j+(m+2)) 0)+cc)%1000000000)) (γ0:=()) rfl rfl om rfl rfl qM (fun _ _=>by exact zO.2 om)) (fun _=>(.s .z)) (fun _ _=> ?_)
 refine jq<|zi<|zv<|qJ rfl<|qJ rfl<|qJ rfl<|zE (zY (z:=(g - 1)) rfl (by rw [ye];rfl) yd (ZU om))<|zE (zZ (j:=j) yb qM rfl rfl rfl om)<|vO 0 rfl (qh (j:=j) (x0:=(g - 1)) (γ0:=()) rfl rfl (by first|omega|(rw [yN];omega)|(simp only [yM];omega)|(simp;done)|(simp;omega)) rfl rfl qM (fun _ _=>by exact zO.2 om)) (fun _=> .z) (fun _ _=> ?_)
 refine jq<|zG<|zi<|vM 1 rfl<|zE (qx rfl rfl w6)<|qY 1 rfl<|zW (j,(xs.set (j+(m+2)) (((xs.getD (j+(m+2)) 0)+cc)%1000000000)),((g - 1) :: qs)) (by exact (hI.neg ⟨a7,a9⟩ hdn hup c3 hm hd f7).2) om (mR rfl) ((.e (i:=0) rfl (by rw [Big.zaj]) (.c (i:=0) rfl .n)):zJ _ _ _) (s0 rfl)
 refine vM 3 rfl<|zE (qm rfl rfl w6)<|qJ rfl<|zE (zY (z:=(((w.getD (j+(m+2)) 0) - bo) - ca)) rfl (by rw [yl];rfl) yd (ZU om))<|zw (qQ 1 (j+(m+2)) rfl yb qM rfl zL rfl rfl om)<|vO 1 rfl (qh (j:=(j+(m+2))) (x0:=(((w.getD (j+(m+2)) 0) - bo) - ca)) (γ0:=()) rfl rfl om rfl rfl qM (fun _ _=>by exact zO.2 om)) (fun _=>(.s .z)) (fun _ _=> ?_)
 refine jq<|zi<|zv<|qJ rfl<|qJ rfl<|qJ rfl<|zE (zY (z:=g) rfl (by rw [ye];rfl) yd (ZU om))<|zE (zZ (j:=j) yb qM rfl rfl rfl om)<|vO 0 rfl (qh (j:=j) (x0:=g) (γ0:=()) rfl rfl (by first|omega|(rw [yN];omega)|(simp only [yM];omega)|(simp;done)|(simp;omega)) rfl rfl qM (fun _ _=>by exact zO.2 om)) (fun _=> .z) (fun _ _=> ?_)
 refine jq<|zG<|zi<|vM 1 rfl<|zE (qx rfl rfl w6)<|qY 1 rfl<|zW (j,(w.set (j+(m+2)) (((w.getD (j+(m+2)) 0) - bo) - ca)),(g :: qs)) (by exact hI.pos ⟨a7,a9⟩ hup c3 hm om) om (mR rfl) ((.e (i:=0) rfl (by rw [Big.zaj]) (.c (i:=0) rfl .n)):zJ _ _ _) (s0 rfl)
 have e5:jj=0:=Oo
 have c4:Big.LgI M (m+2) ((A:Nat):Int) ((V:Nat):Int) 0 u qs:=e5 ▸ hI
 obtain ⟨f8,f9⟩:=c4.fin hm
 have hsc:=Big.zdL (a:=a) (b:=b) b8
 have hql:qs.length=M - (m+2):=by have h8:=c4.ql;omega
 have i0:=c4.ul
 refine z7<|ze<|ze<|zn<|zi<|qe<|Z7 1 rfl (.s .z)<|zN 0 rfl (fun hcu=> ?_)
 have hAV:(ya (A%V)).length≤4398046511104:=yJ (Big.Za (Nat.le_of_lt (yah A (Nat.pos_of_ne_zero (fun e=>by rw [e] at hm;cases hm))))) om
 have g1:yI jj 0++qs=qs:=by rw [e5];rfl
 rw [g1]
 refine vM 2 rfl<|zE (ZW (hi:=(m+2)) yb qM rfl (.s rfl) (.inr ⟨_,rfl⟩) om)<|Vf (V3 0 rfl (m+2) om) (fun _ _=> ?_)
 refine zm (qS rfl) zP (Jh Kw) (qX 0 rfl) ?_
 rintro ⟨⟩ -
 refine qJ rfl ?_
 have g2:yv (u.take (m+2))=ya (A%V):=by exact f9
 rw [g2]
 refine zm (q7 rfl rfl) zP (zdY om om om) (qX 0) ?_
 rintro ⟨g3,g4⟩ -
 refine jD 4 rfl<|qJ rfl<|qt 0 rfl .z<|zm (qS rfl) zP (Jh Kw) (qX 0 rfl) ?_
 rintro ⟨⟩ -
 refine Zp 3 rfl ?_
 have g5:yv qs=ya (A / V):=by exact f8
 rw [g5]
 exact vD rfl ((Sb a6),(M - (m+2)),g3,g4) trivial (zj rfl) (zj rfl) (by rw [hA,hV,hsc.1,hsc.2]) oN ((.e (j:=0) rfl (by rw [hA,hV,hsc.1]) (.e (j:=2) rfl (by rw [hA,hV,hsc.2]) .n)))
theorem zgi {a:Nat} {b:Nat} {p1:Option Addr} {c1:Nat} {p2:Option Addr} {c2:Nat} (hb1:(ya a).length≤4398046511104) (hb2:(ya b).length≤4398046511104) (hb0:0<b):CB 221 [.slice p1 ((ya a).length) c1,.slice p2 ((ya b).length) c2] [zI (rI .u32) p1 c1 (ya a),zI (rI .u32) p2 c2 (ya b)] (Y:=(Option Addr)×Nat×(Option Addr)×Nat) (fun y=> .tuple #[.slice (y.1) ((ya (a / b)).length) (y.2.1),.slice (y.2.2.1) ((ya (a%b)).length) (y.2.2.2)]) (fun y=>[zI (rI .u32) (y.1) (y.2.1) (ya (a / b)),zI (rI .u32) (y.2.2.1) (y.2.2.2) (ya (a%b))]):=by
 refine zg Tryz.func221 rfl rfl (fun c=> ?_)
 refine zN 0 rfl (fun hL0=> ?_)
 refine zN 1 rfl (fun hL1=> ?_)
 have hd1:=Nat.div_le_self a b
 have hd2:=Nat.mod_le a b
 have hob:=yp (yq b) 0
 refine jg 2 rfl<|jK 2 rfl<|qg (q7 rfl rfl) zP KX (vj 0 1)<|vZ 1 rfl<|zx rfl (fun hlt=> ?_) (fun hlt=> ?_)
 have c7:¬(b:Int)≤a:=fun h=>by have:=Big.JH.2 h;omega
 have hab:a<b:=Oo
 refine Zn 3 rfl<|zD ?_
 have a0:a / b=0:=yap hab
 have a1:a%b=a:=yaq hab
 refine QR (rI .u32) ?_
 exact vD rfl (none,0,p1,c1) trivial (zj rfl) (zj rfl) (by rw [a0,a1];rfl) oN ((.e (j:=0) rfl (by rw [a0];rfl) (.e (j:=1) rfl (by rw [a1]) .n)))
 have hab:b≤a:=by have h9:=Big.JH.1 (by omega:0≤yx (a:Int) (b:Int));omega
 refine k80 1 rfl<|qg (qS rfl) zP zat (qX 0)<|jD 5 rfl<|qJ rfl<|qg (qS rfl) zP zat (qX 1)<|jn 5 rfl<|ji (X:=Unit) (fun x=>True) (fun x=>[(30,.bool (decide (((ya a).length≤2)∧((ya b).length≤2)))),(8,.int .u64 (((if (ya b).length≤2 then b else 0):Nat):Int)),(6,.int .u64 (((if (ya a).length≤2 then a else 0):Nat):Int)),(0,.slice p1 ((ya a).length) c1),(1,.slice p2 ((ya b).length) c2)]) (fun x=>[]) (fun x=>[zI (rI .u32) p1 c1 (ya a),zI (rI .u32) p2 c2 (ya b)]) ?_ ?_
 refine vM 1 rfl<|q8 (qU rfl) (fun h1=> ?_) (fun h1=> ?_)
 refine qY 2 rfl ?_
 exact qL () Qn ((.e rfl (congrArg Value.bool JS) (.of rfl))) oN ((.of [0,1] rfl))
 refine qY 2 rfl ?_
 exact qL () Qn ((.e rfl (congrArg Value.bool JS) (.of rfl))) oN ((.of [0,1] rfl))
 rintro ⟨⟩ -
 refine zx rfl (fun hw=> ?_) (fun hw=> ?_)
 have c8:=Big.KL hw.1
 have c9:=Big.KL hw.2
 have d0:(0:Int)≤(a:Int) / (b:Int):=Int.ediv_nonneg om om
 have d1:(a:Int) / (b:Int)≤a:=Int.ediv_le_self _ om
 have a3:(0:Int)≤(a:Int)%(b:Int):=Int.emod_nonneg _ om
 have a4:(a:Int)%(b:Int)<b:=yac _ om
 refine qe ?_
 have e2:(if (ya a).length≤2 then a else 0)=a:=by rw [if_pos hw.1]
 rw [e2]
 have e3:(if (ya b).length≤2 then b else 0)=b:=by rw [if_pos hw.2]
 rw [e3]
 refine Jo 100000<|zQ 0 rfl rfl<|zQ 1 rfl rfl<|zC 2 rfl (Z6 (z:=(((a / b):Nat):Int)) rfl rfl om (by rw [KF (z:=(((a / b):Nat):Int)) om om];exact vu om))<|zQ 4 rfl rfl<|zQ 5 rfl rfl<|zC 6 rfl (jk (z:=(((a%b):Nat):Int)) rfl rfl om (KG om om))<|zt 3 (zp rfl (qS rfl) zP (VY zL) (.n) ?_)
 rintro ⟨a5,a6⟩ -
 refine zt 7 (zp rfl (qS rfl) zP (VY zL) (.n) ?_)
 rintro ⟨a7,a8⟩ -
 refine zC 8 rfl (zT rfl)<|zC 9 rfl (zT rfl)<|zU kr<|zi<|vv<|zD ?_
 exact vD rfl (a5,a6,a7,a8) trivial (zj rfl) (zj rfl) rfl oN ((.of [1,0] rfl))
 refine vY<|k12 3 rfl<|zx rfl (fun a9=> ?_) (fun a9=> ?_)
 have hbd:=Big.zdM (by omega:(ya b).length=1)
 have b1:=Big.zhJ hb0
 have hmlt:=yah a hb0
 have a3:(0:Int)≤(a:Int)%(b:Int):=Int.emod_nonneg _ om
 have a4:(a:Int)%(b:Int)<b:=yac _ om
 refine jK 2 rfl<|qH 1 0 rfl yb qM rfl zL rfl rfl (gD (d:=0) om) (fun b8 o9 a2=> ?_) (x0:=((ya b).getD 0 0))
 replace a2:=zO.1 a2
 refine zw (zf (j:=0) 0 vJ rfl rfl rfl rfl) ?_
 have b4:(((ya b).getD 0 0):Int)=((b:Nat):Int):=by exact hbd
 rw [b4]
 refine zm (q7 rfl rfl) zP (zdY qB qB zL) (qX 1) ?_
 rintro ⟨b5,b6⟩ -
 refine jD 5 rfl<|kS 2 rfl<|zE (zY (z:=(((a%b):Nat):Int)) rfl (by rw [yd];rfl) ye (vu om))<|zm (qS rfl) zP (VY zL) (.n) ?_
 rintro ⟨b7,b9⟩ -
 refine Zp 2 rfl<|zD ?_
 exact vD rfl (b5,b6,b7,b9) trivial (zj rfl) (zj rfl) rfl oN ((.of [1,0] rfl))
 have b1:=Big.zhJ hb0
 refine k80 2 rfl<|zm (q7 rfl rfl) zP (zmZ qB qB zL zL) (vj 0 1) ?_
 rintro ⟨c3,c4,c5,c6⟩ -
 refine Zp 4 rfl ?_
 exact vD rfl (c3,c4,c5,c6) trivial (zj rfl) (zj rfl) rfl oN ((.of [0,1] rfl))
theorem zjM {s:Bool} {p1:Option Addr} {n1:Nat} {c1:Nat} {l1:List Int} {t:Bool} {p2:Option Addr} {n2:Nat} {c2:Nat} {l2:List Int} (hn1:l1.length=n1) (hn2:l2.length=n2) (hb1:yi (yg s l1)≤4398046511104) (hb2:yi (yg t l2)≤4398046511104):CB 172 [.agg #[.bool s,.slice p1 n1 c1],.agg #[.bool t,.slice p2 n2 c2]] [zI (rI .u32) p1 c1 l1,zI (rI .u32) p2 c2 l2] (Y:=(Option Addr)×Nat) (fun y=> .agg #[.bool (decide (((yZ (yg s l1).natAbs (yg t l2).natAbs:Nat):Int)<0)),.slice (y.1) ((ya (((yZ (yg s l1).natAbs (yg t l2).natAbs:Nat):Int).natAbs)).length) (y.2)]) (fun y=>[zI (rI .u32) (y.1) (y.2) (ya (((yZ (yg s l1).natAbs (yg t l2).natAbs:Nat):Int).natAbs))]):=by
 refine zg Tryz.func172 rfl rfl (fun c=> ?_)
 show vm _ _ _ _ _ [(0,.agg #[.bool s,.slice p1 n1 c1]),(1,.agg #[.bool t,.slice p2 n2 c2])] [] [zI (rI .u32) p1 c1 l1,zI (rI .u32) p2 c2 l2]
 refine zN 0 rfl (fun hL0=> ?_)
 refine jZ 0 rfl (fun a1=> ?_)
 refine zN 1 rfl (fun hL1=> ?_)
 refine jZ 1 rfl (fun a2=> ?_)
 have c4:yr l1:=fun g hg=>(zO.1 (a1 g hg)).1
 have c5:yr l2:=fun g hg=>(zO.1 (a2 g hg)).1
 obtain ⟨x1,hx1⟩:∃z,z=yg s l1:=⟨_,rfl⟩
 obtain ⟨x2,hx2⟩:∃z,z=yg t l2:=⟨_,rfl⟩
 unfold yi at hb1 hb2
 refine vg<|zB (zX rfl rfl) (fun b1=> ?_)
 refine zB (zX rfl rfl) (fun b2=> ?_)
 refine zB (zo jo rfl) (fun b3=> ?_)
 refine ZI<|Jo 100000<|vE 0 rfl (za 2 z4 rfl rfl (.t2 .nil))<|vE 2 rfl (za 1 z4 rfl rfl (.t2 .nil))<|zt 1 (zp rfl (qS rfl) zP (j7 qB) (qX 0 rfl) ?_)
 rintro ⟨a3,a4⟩ -
 dsimp only [aq,nq,cq]
 refine zt 3 (zp rfl (qS rfl) zP (j7 qB) (qX 2 rfl) ?_)
 rintro ⟨a5,a6⟩ -
 dsimp only [aq,nq,cq]
 refine zC 4 rfl (zT rfl)<|zC 5 rfl (zT rfl)<|zU kr<|zi<|qe<|zk<|z5 (X:=Nat×Nat×(Option Addr)×Nat×(Option Addr)×Nat) (fun x=>yZ x.1 x.2.1=yZ (yg s l1).natAbs (yg t l2).natAbs∧(ya x.1).length≤4398046511104∧(ya x.2.1).length≤4398046511104) (fun x=>[(6,.slice (x.2.2.2.2.1) ((ya (x.2.1)).length) (x.2.2.2.2.2)),(5,.slice (x.2.2.1) ((ya (x.1)).length) (x.2.2.2.1))]) [4] (fun x=>[zK b3 30 [wz.b,wz.l],zK b2 30 [.bool t,.slice p2 n2 c2],zK b1 30 [.bool s,.slice p1 n1 c1]]) (fun x=>[zI (rI .u32) (x.2.2.1) (x.2.2.2.1) (ya (x.1)),zI (rI .u32) (x.2.2.2.2.1) (x.2.2.2.2.2) (ya (x.2.1))]) [2,3] (fun x=>x.2.1) ((yg s l1).natAbs,(yg t l2).natAbs,a3,a4,a5,a6) (by exact ⟨rfl,hb1,hb2⟩) (.of rfl) ((.of [0,0,0] rfl):zJ _ _ _) ((.of [1,0] rfl)) ?_
 rintro ⟨a,b,pa,ca,pb,cb⟩ hI
 replace hI:yZ a b=yZ (yg s l1).natAbs (yg t l2).natAbs∧(ya a).length≤4398046511104∧(ya b).length≤4398046511104:=hI
 try dsimp only
 obtain ⟨hgc,hba,hbb⟩:=hI
 refine qe<|k12 3 rfl<|zx rfl (fun hne=> ?_) (fun hne=> ?_)
 have a0:0<b:=Nat.pos_of_ne_zero (fun e=>by rw [e] at hne;simp [Big.jE] at hne)
 refine kk6<|zk<|jK 1 rfl<|qg (qS rfl) zP zat (qX 0)<|jD 5 rfl<|qJ rfl<|qg (qS rfl) zP zat (qX 1)<|jn 5 rfl<|ji (X:=Unit) (fun x=>True) (fun x=>[(33,.bool (decide (((ya a).length≤2)∧((ya b).length≤2)))),(9,.int .u64 (((if (ya b).length≤2 then b else 0):Nat):Int)),(7,.int .u64 (((if (ya a).length≤2 then a else 0):Nat):Int)),(6,.slice pb ((ya b).length) cb),(5,.slice pa ((ya a).length) ca),(4,Vp b3)]) (fun x=>[zK b3 30 [wz.b,wz.l],zK b2 30 [.bool t,.slice p2 n2 c2],zK b1 30 [.bool s,.slice p1 n1 c1]]) (fun x=>[zI (rI .u32) pa ca (ya a),zI (rI .u32) pb cb (ya b),zI (rI .u32) p1 c1 l1,zI (rI .u32) p2 c2 l2]) ?_ ?_
 refine vM 1 rfl<|q8 (qU rfl) (fun a7=> ?_) (fun a7=> ?_)
 refine qY 2 rfl ?_
 exact qL () Qn ((.e rfl (congrArg Value.bool JS) (.of rfl))) ((.of [0,0,0] rfl):zJ _ _ _) ((.of [0,1,2,3] rfl))
 refine qY 2 rfl ?_
 exact qL () Qn ((.e rfl (congrArg Value.bool JS) (.of rfl))) ((.of [0,0,0] rfl):zJ _ _ _) ((.of [0,1,2,3] rfl))
 rintro ⟨⟩ -
 try dsimp only
 refine zx rfl (fun hw=> ?_) (fun hw=> ?_)
 have a8:=Big.KL hw.1
 have a9:=Big.KL hw.2
 have e8:(if (ya a).length≤2 then a else 0)=a:=by rw [if_pos hw.1]
 rw [e8]
 have e9:(if (ya b).length≤2 then b else 0)=b:=by rw [if_pos hw.2]
 rw [e9]
 refine qe<|zk<|z5 (X:=Nat×Nat) (fun x=>yZ x.1 x.2=yZ a b∧x.1<1000000000000000000∧x.2<1000000000000000000) (fun x=>[(9,.int .u64 ((x.2:Nat):Int)),(7,.int .u64 ((x.1:Nat):Int))]) [6,5,4] (fun x=>[zK b3 30 [wz.b,wz.l],zK b2 30 [.bool t,.slice p2 n2 c2],zK b1 30 [.bool s,.slice p1 n1 c1]]) (fun x=>[]) [0,1,2,3] (fun x=>x.2) (a,b) (by exact ⟨rfl,a8,a9⟩) (.of rfl) ((.of [0,0,0] rfl):zJ _ _ _) sN ?_
 rintro ⟨q,r⟩ hJ
 replace hJ:yZ q r=yZ a b∧q<1000000000000000000∧r<1000000000000000000:=hJ
 try dsimp only
 obtain ⟨hgq,c6,b4⟩:=hJ
 have hmr:=Nat.mod_le q r
 refine qe<|k12 2 rfl<|zx rfl (fun hy=> ?_) (fun hy=> ?_)
 refine kk6<|zk<|Jo 100000<|zQ 0 rfl rfl<|zQ 1 rfl rfl<|zQ 2 rfl rfl<|zC 3 rfl (jk (z:=(((q%r):Nat):Int)) rfl rfl om (KG om om))<|zC 4 rfl (zT rfl)<|zC 5 rfl (zT rfl)<|zU kr<|zG<|zW (r,(q%r)) (by exact ⟨by rw [Big.zan,hgq],b4,Oo⟩) (by exact yah q om) (mR rfl) ((.of [0,0,0] rfl):zJ _ _ _) ((.of [0,1,2,3] rfl))
 have hrz:r=0:=Oo
 have hfin:q=yZ (yg s l1).natAbs (yg t l2).natAbs:=by rw [← hgc,←hgq,hrz,Nat.gcd_zero_right]
 refine z7<|ze<|ze<|zn<|zi<|jK 1 rfl<|zm (qS rfl) zP (VY zL) (.n) ?_
 rintro ⟨c7,c8⟩ -
 dsimp only [aq,nq,cq]
 refine zm (q7 rfl rfl) zP jG (qX 0) ?_
 rintro ⟨b5,b6⟩ -
 dsimp only [aq,nq,cq]
 refine zh 0 rfl rfl rfl rfl z8 (.t2 .nil) .z<|Va<|zD<|qz<|zD<|qz<|zD ?_
 exact zq rfl (b5,b6) trivial (zy 0 z4 rfl rfl (.t2 .nil)) (by rw [← hfin];rfl) oN ((.e (j:=0) rfl (by rw [← hfin];rfl) .n))
 refine k80 2 rfl<|zm (q7 rfl rfl) zP (zgi zL zL zL) (vj 0 1) ?_
 rintro ⟨c9,d0,b7,b8⟩ -
 dsimp only [aq,nq,cq]
 refine vZ 5 rfl<|k2n 4 rfl<|zG<|zW (b,(a%b),pb,cb,b7,b8) (by exact ⟨by rw [Big.zan,hgc],hbb,yJ (Big.Za (Nat.le_of_lt (yah a a0))) hbb⟩) (by exact yah a a0) ((.e rfl vA (.c rfl (.c rfl .n)))) ((.of [0,0,0] rfl):zJ _ _ _) ((.c (j:=3) rfl (.e (j:=1) rfl zL (.of [4,5] rfl))))
 have hbz:b=0:=Big.Ze.1 om
 have hfin:a=yZ (yg s l1).natAbs (yg t l2).natAbs:=by rw [← hgc,hbz,Nat.gcd_zero_right]
 refine z7<|ze<|ze<|zn<|zi<|qe<|vM 1 rfl<|zm qS zP (zas (a:=a) (p:=pa) (cap:=ca) zL) (qX 0) ?_
 rintro ⟨d1,d4⟩ -
 refine zm (q7 rfl rfl) zP jG (qX 0) ?_
 rintro ⟨b9,c3⟩ -
 refine zh 0 rfl rfl rfl rfl z8 (.t2 .nil) .z<|Va ?_
 exact zq rfl (b9,c3) trivial (zy 0 z4 rfl rfl (.t2 .nil)) (by rw [← hfin];rfl) oN ((.e (j:=0) rfl (by rw [← hfin];rfl) .n))
theorem zm0 (hb1:yi x1≤4398046511104) (hb2:yi x2≤4398046511104):jI yh 172 [.agg #[.bool (decide ((x1)<0)),.slice (p1) ((ya ((x1).natAbs)).length) (c1)],.agg #[.bool (decide ((x2)<0)),.slice (p2) ((ya ((x2).natAbs)).length) (c2)]] [] [zI (rI .u32) (p1) (c1) (ya ((x1).natAbs)),zI (rI .u32) (p2) (c2) (ya ((x2).natAbs))] (Y:=(Option Addr)×(Nat)) (fun y=>True) (fun y=> .agg #[.bool (decide ((((yZ x1.natAbs x2.natAbs:Nat):Int))<0)),.slice (y.1) ((ya ((((yZ x1.natAbs x2.natAbs:Nat):Int)).natAbs)).length) (y.2)]) (fun y=>[]) (fun y=>[zI (rI .u32) (y.1) (y.2) (ya ((((yZ x1.natAbs x2.natAbs:Nat):Int)).natAbs))]):=by
  have h:= @zjM (decide ((x1)<0)) p1 (ya (x1).natAbs).length c1 (ya (x1).natAbs) (decide ((x2)<0)) p2 (ya (x2).natAbs).length c2 (ya (x2).natAbs) rfl rfl (by rw [yw];exact hb1) (by rw [yw];exact hb2)
  rw [yw,yw] at h
  exact h
theorem KY (hb1:yi x1≤4398046511104) (hb2:yi x2≤4398046511104):jI yh 172 [.agg #[w1.b,w1.l],.agg #[w2.b,w2.l]] [] [zF w1 (x1),zF w2 (x2)] (Y:=(Wd)) (fun y=>True) (fun y=> .agg #[y.b,y.l]) (fun y=>[]) (fun y=>[zF y (((yZ x1.natAbs x2.natAbs:Nat):Int))]):=by
  exact Vn (Jb (fun p1 c1 p2 c2=>zm0 hb1 hb2))
theorem zgj {x1:Int} {x2:Int} {p1:Option Addr} {c1:Nat} {p2:Option Addr} {c2:Nat} (hb1:yi x1≤4398046511104) (hb2:yi x2≤4398046511104) (hy:x2≠0):CB 157 [.agg #[.bool (decide (x1<0)),.slice p1 ((ya ((x1).natAbs)).length) c1],.agg #[.bool (decide (x2<0)),.slice p2 ((ya ((x2).natAbs)).length) c2]] [zI (rI .u32) p1 c1 (ya ((x1).natAbs)),zI (rI .u32) p2 c2 (ya ((x2).natAbs))] (Y:=(Option Addr)×Nat×(Option Addr)×Nat) (fun y=> .tuple #[.agg #[.bool (decide ((Big.fq x1 x2)<0)),.slice (y.1) ((ya ((Big.fq x1 x2).natAbs)).length) (y.2.1)],.agg #[.bool (decide ((Big.fr x1 x2)<0)),.slice (y.2.2.1) ((ya ((Big.fr x1 x2).natAbs)).length) (y.2.2.2)],.int .i64 0]) (fun y=>[zI (rI .u32) (y.1) (y.2.1) (ya ((Big.fq x1 x2).natAbs)),zI (rI .u32) (y.2.2.1) (y.2.2.2) (ya ((Big.fr x1 x2).natAbs))]):=by
 refine zg Tryz.func157 rfl rfl (fun c=> ?_)
 refine zN 0 rfl (fun hL0=> ?_)
 refine zN 1 rfl (fun hL1=> ?_)
 unfold yi at hb1 hb2
 have a4:=Nat.div_le_self x1.natAbs x2.natAbs
 have a5:=yah x1.natAbs (show 0<x2.natAbs by omega)
 have hl1:=Big.Za a4
 have hl2:=Big.Za (Nat.le_of_lt a5)
 refine vg<|zB (zX rfl rfl) (fun b1=> ?_)
 refine zB (zX rfl rfl) (fun b2=> ?_)
 refine zB (zo jo rfl) (fun b3=> ?_)
 refine zB (zo jo rfl) (fun b4=> ?_)
 refine jn 1 rfl<|Jo 100000<|vE 0 rfl (za 3 z4 rfl rfl (.t2 .nil))<|vE 2 rfl (za 2 z4 rfl rfl (.t2 .nil))<|zt 1 (zp rfl (qS rfl) zP Jx (qX 0) ?_)
 rintro ⟨p25,c26⟩ -
 refine zt 3 (zp rfl (qS rfl) zP Jx (qX 2) ?_)
 rintro ⟨p27,c28⟩ -
 refine zC 4 rfl (zT rfl)<|zC 5 rfl (zT rfl)<|zU kr<|zi<|qe<|k12 3 rfl<|zx rfl (fun h9=> ?_) (fun h9=> ?_)
 exact absurd (Big.Ze.1 (show (ya x2.natAbs).length=0 by omega)) om
 refine k80 2 rfl<|zm (q7 rfl rfl) zP (zgi zL zL zL) (vj 1 0) ?_
 rintro ⟨c8,c9,d0,d1⟩ -
 refine jD 5 rfl<|qJ rfl<|zm (qS rfl) zP (zas zL) (qX 1) ?_
 rintro ⟨d4,d5⟩ -
 refine jn 1 rfl<|jK 3 rfl<|q8 (qU rfl) (fun hpos=> ?_) (fun hpos=> ?_)
 refine zE (zb yf rfl Jn rfl rfl)<|zw (zc 3 J5 rfl rfl rfl)<|zE (zb yf rfl Jn rfl rfl)<|zw (zc 2 J5 rfl rfl rfl)<|zE (Zt yn rfl rfl)<|vZ 1 rfl<|zx rfl (fun hadj=> ?_) (fun hadj=> ?_)
 have hsg:(decide (decide (x1<0)≠decide (x2<0)))=true:=decide_eq_true hadj
 have a2:x1.natAbs%x2.natAbs≠0:=fun e=>by have h9:=hpos;rw [e,Big.jE] at h9;exact absurd h9 dd
 refine vM 1 rfl<|qZ (z6 (enc:=fun z:Int=>[.int .u32 z]) (ok:=Vb .u32) (h1:=fun _=>rfl) (h2:=fun _=>rfl) (k:=1) yb vB rfl dd dd dd (.c (x:=1) rfl rfl (fun _ _=>by exact zO.2 om) .n)) (fun a3 _=> ?_)
 refine qt 0 rfl .z ?_
 have a6:[1]=ya 1:=by exact (Big.zcB (s:=1) dd dd).symm
 rw [a6]
 have a7:(.slice (Sb a3) 1 1:Value)= .slice (Sb a3) ((ya 1).length) 1:=by rfl
 rw [a7]
 refine zm (.c rfl (.c rfl .n)) zP (zdW (by first|rfl|assumption|omega|(decide +kernel)) (by first|rfl|assumption|omega|(decide +kernel))) (vj 2 0) ?_
 rintro ⟨d6,d7⟩ -
 refine kS 2 rfl<|zm (q7 rfl rfl) zP (za9 zL zL zL) (vj 5 2) ?_
 rintro ⟨d8,d9⟩ -
 refine jn 2 rfl<|vk (.c (i:=2) rfl (.c (i:=1) rfl (.c (i:=0) rfl (.c (i:=0) rfl (.c (i:=0) rfl .n)))))<|rd2 11<|zC 0 rfl (zb yf rfl Jn rfl rfl)<|qy 1 rfl (zc 4 J5 rfl rfl rfl)<|zC 2 rfl (zb yf rfl Jn rfl rfl)<|qy 3 rfl (zc 3 J5 rfl rfl rfl)<|zC 4 rfl (Zt yn rfl rfl)<|zQ 5 rfl rfl<|zC 7 rfl (zb yf rfl Jn rfl rfl)<|qy 8 rfl (zc 3 J5 rfl rfl rfl)<|zQ 9 rfl rfl<|zt 6 (zp rfl (q7 rfl rfl) zP jG (qX 1) ?_)
 rintro ⟨a8,a9⟩ -
 refine zt 10 (zp rfl (q7 rfl rfl) zP jG (qX 1) ?_)
 rintro ⟨b5,b6⟩ -
 refine zt 11 (zH rfl rfl rfl rfl z8 (.t2 .nil) ?_)
 refine Zc (qP (i:=1) rfl)<|zt 12 (zH rfl rfl rfl rfl z8 (.t2 .nil) ?_)
 refine zC 13 rfl (zT rfl)<|zU kr<|zi<|vv ?_
 have a0:yk (decide (decide (x1<0)≠decide (x2<0))) ((x1.natAbs / x2.natAbs+1:Nat):Int)=Big.fq x1 x2:=by rw [hsg];exact (Big.zeA hy hadj a2).1
 have a1:yk (decide (x2<0)) ((x2.natAbs - x1.natAbs%x2.natAbs:Nat):Int)=Big.fr x1 x2:=(Big.zeA hy hadj a2).2
 exact J1 rfl (a8,a9,b5,b6) trivial (zy 1 z4 rfl rfl (.t2 .nil)) (zy 0 z4 rfl rfl (.t2 .nil)) (zj rfl) (by rw [a0,a1]) oN ((.e (j:=1) rfl (by rw [a0]) (.e (j:=0) rfl (by rw [a1]) .n)))
 refine vY<|vk (.c (i:=1) rfl (.c (i:=0) rfl (.c (i:=0) rfl (.c (i:=0) rfl .n))))<|rd2 11<|zC 0 rfl (zb yf rfl Jn rfl rfl)<|qy 1 rfl (zc 3 J5 rfl rfl rfl)<|zC 2 rfl (zb yf rfl Jn rfl rfl)<|qy 3 rfl (zc 2 J5 rfl rfl rfl)<|zC 4 rfl (Zt yn rfl rfl)<|zQ 5 rfl rfl<|zC 7 rfl (zb yf rfl Jn rfl rfl)<|qy 8 rfl (zc 2 J5 rfl rfl rfl)<|zQ 9 rfl rfl<|zt 6 (zp rfl (q7 rfl rfl) zP jG (qX 1) ?_)
 rintro ⟨b7,b8⟩ -
 refine zt 10 (zp rfl (q7 rfl rfl) zP jG (qX 1) ?_)
 rintro ⟨b9,c3⟩ -
 refine zt 11 (zH rfl rfl rfl rfl z8 (.t2 .nil) ?_)
 refine Zc (qP (i:=1) rfl)<|zt 12 (zH rfl rfl rfl rfl z8 (.t2 .nil) ?_)
 refine zC 13 rfl (zT rfl)<|zU kr<|zi<|vv ?_
 have hsg:(decide (decide (x1<0)≠decide (x2<0)))=false:=decide_eq_false hadj
 have a0:yk (decide (decide (x1<0)≠decide (x2<0))) ((x1.natAbs / x2.natAbs:Nat):Int)=Big.fq x1 x2:=by rw [hsg];exact (Big.zam hy (yK.1 hadj)).1
 have a1:yk (decide (x2<0)) ((x1.natAbs%x2.natAbs:Nat):Int)=Big.fr x1 x2:=(Big.zam hy (yK.1 hadj)).2
 exact J1 rfl (b7,b8,b9,c3) trivial (zy 1 z4 rfl rfl (.t2 .nil)) (zy 0 z4 rfl rfl (.t2 .nil)) (zj rfl) (by rw [a0,a1]) oN ((.e (j:=1) rfl (by rw [a0]) (.e (j:=0) rfl (by rw [a1]) .n)))
 refine vZ 6 rfl<|qW rfl<|vY<|vk (.c (i:=1) rfl (.c (i:=0) rfl (.c (i:=0) rfl (.c (i:=0) rfl .n))))<|rd2 11<|zC 0 rfl (zb yf rfl Jn rfl rfl)<|qy 1 rfl (zc 3 J5 rfl rfl rfl)<|zC 2 rfl (zb yf rfl Jn rfl rfl)<|qy 3 rfl (zc 2 J5 rfl rfl rfl)<|zC 4 rfl (Zt yn rfl rfl)<|zQ 5 rfl rfl<|zC 7 rfl (zb yf rfl Jn rfl rfl)<|qy 8 rfl (zc 2 J5 rfl rfl rfl)<|zQ 9 rfl rfl<|zt 6 (zp rfl (q7 rfl rfl) zP jG (qX 1) ?_)
 rintro ⟨c4,c5⟩ -
 refine zt 10 (zp rfl (q7 rfl rfl) zP jG (qX 1) ?_)
 rintro ⟨c6,c7⟩ -
 refine zt 11 (zH rfl rfl rfl rfl z8 (.t2 .nil) ?_)
 refine Zc (qP (i:=1) rfl)<|zt 12 (zH rfl rfl rfl rfl z8 (.t2 .nil) ?_)
 refine zC 13 rfl (zT rfl)<|zU kr<|zi<|vv ?_
 have a2:x1.natAbs%x2.natAbs=0:=Big.Ze.1 om
 have hz:yk (decide (decide (x1<0)≠decide (x2<0))) ((x1.natAbs / x2.natAbs:Nat):Int)=Big.fq x1 x2∧yk (decide (x2<0)) ((x1.natAbs%x2.natAbs:Nat):Int)=Big.fr x1 x2:=by by_cases h:decide (x1<0)=decide (x2<0);rw [decide_eq_false (not_not_intro h)];exact Big.zam hy h;rw [decide_eq_true h];exact Big.zez hy h a2
 exact J1 rfl (c4,c5,c6,c7) trivial (zy 1 z4 rfl rfl (.t2 .nil)) (zy 0 z4 rfl rfl (.t2 .nil)) (zj rfl) (by rw [hz.1,hz.2]) oN ((.e (j:=1) rfl (by rw [hz.1]) (.e (j:=0) rfl (by rw [hz.2]) .n)))
theorem Qe (hb1:yi x1≤4398046511104) (hb2:yi x2≤4398046511104) (hy:x2≠0):jI yh 157 [.agg #[w1.b,w1.l],.agg #[w2.b,w2.l]] [] [zF w1 (x1),zF w2 (x2)] (Y:=(Wd)×(Wd)) (fun y=>True) (fun y=> .tuple #[.agg #[y.1.b,y.1.l],.agg #[y.2.b,y.2.l],yas yat (0)]) (fun y=>[]) (fun y=>[zF y.1 (Big.fq x1 x2),zF y.2 (Big.fr x1 x2)]):=by
  exact zjE (Jb (fun p1 c1 p2 c2=>zgj hb1 hb2 hy))
theorem zau {x1:Int} {x2:Int} {p1:Option Addr} {c1:Nat} {p2:Option Addr} {c2:Nat}:CA 171 [.agg #[.bool (decide (x1<0)),.slice p1 ((ya ((x1).natAbs)).length) c1],.agg #[.bool (decide (x2<0)),.slice p2 ((ya ((x2).natAbs)).length) c2]] [zI (rI .u32) p1 c1 (ya ((x1).natAbs)),zI (rI .u32) p2 c2 (ya ((x2).natAbs))] (.int .i64 (yx x1 x2)):=by
 refine zg Tryz.func171 rfl rfl (fun c=> ?_)
 refine zN 0 rfl (fun hL0=> ?_)
 refine zN 1 rfl (fun hL1=> ?_)
 have hcb:=Big.zt3 (x1.natAbs:Int) (x2.natAbs:Int)
 refine vg<|zB (zX rfl rfl) (fun b1=> ?_)
 refine zB (zX rfl rfl) (fun b2=> ?_)
 refine jn 1 rfl<|qe<|Jo 100000<|vE 0 rfl (za 1 z4 rfl rfl (.t2 .nil))<|vE 2 rfl (za 0 z4 rfl rfl (.t2 .nil))<|zt 1 (jU rfl (qS rfl) zP zba (qX 0) ?_)
 refine zt 3 (jU rfl (qS rfl) zP zba (qX 1) ?_)
 refine zC 4 rfl (zT rfl)<|zC 5 rfl (zT rfl)<|zU kr<|zi<|k12 3 rfl<|zx rfl (fun hs=> ?_) (fun hs=> ?_)
 refine jK 2 rfl<|qg (q7 rfl rfl) zP zbx (.n)<|Zp 1 rfl<|zD ?_
 exact zq rfl () trivial (zj rfl) (by rw [Big.zkT hs]) oN sN
 refine vY<|Jo 100000<|vE 0 rfl (za 1 z4 rfl rfl (.t2 .nil))<|vE 2 rfl (za 0 z4 rfl rfl (.t2 .nil))<|zt 1 (zp rfl (qS rfl) zP Jx (qX 0) ?_)
 rintro ⟨p23,c24⟩ -
 refine zt 3 (zp rfl (qS rfl) zP Jx (qX 2) ?_)
 rintro ⟨p25,c26⟩ -
 refine zt 4 (jU rfl (q7 rfl rfl) zP KX (vj 1 0) ?_)
 refine zC 5 rfl (zT rfl)<|zU kr<|zi<|qe<|vg<|zE (zb yf rfl Jn rfl rfl)<|zw (zc 1 J5 rfl rfl rfl)<|Vc<|ZN rfl (fun hn=> ?_) (fun hn=> ?_)
 refine jK 1 rfl<|zE (JD (z:=(-(yx (((x1).natAbs):Int) (((x2).natAbs):Int)))) rfl (Q9 om))<|Zp 1 rfl<|zD ?_
 exact zq rfl () trivial (zj rfl) (by rw [Big.cmp_neg hs (by simpa using hn)]) oN sN
 refine k85 2 rfl ?_
 exact zq rfl () trivial (zj rfl) (by rw [Big.zpt hs (by simpa using hn)]) oN sN
theorem zav :jI yh 171 [.agg #[w1.b,w1.l],.agg #[w2.b,w2.l]] [] [zF w1 (x1),zF w2 (x2)] (Y:=Unit) (fun y=>True) (fun y=> yas yat (yx x1 x2)) (fun y=>[]) (fun y=>[]):=by
  exact Jb (fun p1 c1 p2 c2=>zau)
theorem zeQ {s:Bool} {p:Option Addr} {n:Nat} {cap:Nat} {l:List Int} (hn:l.length=n) (hln:yi (yg s l)≤4398046511104):CB 138 [.agg #[.bool s,.slice p n cap]] [zI (rI .u32) p cap l] (Y:=(Option Addr)×Nat) (fun y=> .agg #[.bool (decide ((- yg s l)<0)),.slice (y.1) ((ya ((- yg s l).natAbs)).length) (y.2)]) (fun y=>[zI (rI .u32) (y.1) (y.2) (ya ((- yg s l).natAbs))]):=by
 refine zg Tryz.func138 rfl rfl (fun c=> ?_)
 refine zN 0 rfl (fun hL0=> ?_)
 refine jZ 0 rfl (fun a0=> ?_)
 have hnn:yr l:=fun g hg=>(zO.1 (a0 g hg)).1
 unfold yi at hln
 refine vg<|zB (zX rfl rfl) (fun b1=> ?_)
 refine zB (zo jo rfl) (fun b2=> ?_)
 refine ZI<|Vk 7<|zC 0 rfl (zb yf rfl Jn rfl rfl)<|qy 1 rfl (zc 1 J5 rfl rfl rfl)<|zC 2 rfl (Zo rfl)<|qy 3 rfl (za 1 z4 rfl rfl (.t2 .nil))<|zt 4 (zp rfl (qS rfl) zP (j7 qB) (qX 0 rfl) ?_)
 rintro ⟨p23,c24⟩ -
 refine zt 5 (zp rfl (qS rfl) zP (zas Kw) (qX 0) ?_)
 rintro ⟨p25,c26⟩ -
 refine zt 6 (zp rfl (q7 rfl rfl) zP jG (qX 0) ?_)
 rintro ⟨a1,a2⟩ -
 refine zt 7 (zH rfl rfl rfl rfl z8 (.t2 .nil) ?_)
 refine zU kr<|zi<|vv ?_
 have hz:yk (!s) ((yg s l).natAbs:Int)= - yg s l:=by rw [Big.zhG,Big.JG hnn]
 exact zq rfl (a1,a2) trivial (zy 0 z4 rfl rfl (.t2 .nil)) (by rw [hz]) oN ((.e (j:=0) rfl (by rw [hz]) .n))
theorem zcS (hln:yi z≤4398046511104):jI yh 138 [.agg #[.bool (decide ((z)<0)),.slice (p) ((ya ((z).natAbs)).length) (cap)]] [] [zI (rI .u32) (p) (cap) (ya ((z).natAbs))] (Y:=(Option Addr)×(Nat)) (fun y=>True) (fun y=> .agg #[.bool (decide ((- z)<0)),.slice (y.1) ((ya ((- z).natAbs)).length) (y.2)]) (fun y=>[]) (fun y=>[zI (rI .u32) (y.1) (y.2) (ya ((- z).natAbs))]):=by
  have h:= @zeQ (decide ((z)<0)) p (ya (z).natAbs).length cap (ya (z).natAbs) rfl (by rw [yw];exact hln)
  rw [yw] at h
  exact h
theorem zaw (hln:yi x1≤4398046511104):jI yh 138 [.agg #[w1.b,w1.l]] [] [zF w1 (x1)] (Y:=(Wd)) (fun y=>True) (fun y=> .agg #[y.b,y.l]) (fun y=>[]) (fun y=>[zF y (- x1)]):=by
  exact Vn (WP (fun p c=>zcS hln))
theorem zcT {s:Bool} {p1:Option Addr} {n1:Nat} {c1:Nat} {l1:List Int} {t:Bool} {p2:Option Addr} {n2:Nat} {c2:Nat} {l2:List Int} (hn1:l1.length=n1) (hn2:l2.length=n2) (hm1:n1≤1099511627776) (hm2:n2≤1099511627776):CA 88 [.agg #[.bool s,.slice p1 n1 c1,.bool t,.slice p2 n2 c2]] [zI (rI .u32) p1 c1 l1,zI (rI .u32) p2 c2 l2] (.bool (decide (Big.qok ((s,l1),(t,l2))))):=by
 refine zg Tryz.func88 rfl rfl (fun c=> ?_)
 refine zN 0 rfl (fun hL0=> ?_)
 refine jZ 0 rfl (fun a0=> ?_)
 refine zN 1 rfl (fun hL1=> ?_)
 refine jZ 1 rfl (fun a1=> ?_)
 have a2:yr l1:=fun g hg=>(zO.1 (a0 g hg)).1
 have a3:yr l2:=fun g hg=>(zO.1 (a1 g hg)).1
 have hb1:yi (yg s l1)≤n1:=by have:=yC (s:=s) a2;omega
 have hb2:yi (yg t l2)≤n2:=by have:=yC (s:=t) a3;omega
 refine vg<|zB (zX rfl rfl) (fun b1=> ?_)
 refine jn 1 rfl<|ji (X:=Unit) (fun x=>True) (fun x=>[(18,.bool (decide (¬(yA s l1∧yA t l2∧0<yg t l2)))),(1,Vp b1)]) (fun x=>[zK b1 32 [.bool s,.slice p1 n1 c1,.bool t,.slice p2 n2 c2]]) (fun x=>[zI (rI .u32) p1 c1 l1,zI (rI .u32) p2 c2 l2]) ?_ ?_
 refine zv<|zE (zb yc rfl z8 rfl rfl)<|zw (za 0 z4 rfl rfl (.t2 .nil))<|qg (qS rfl) zP (Wk qB) (qX 0 rfl)<|zE (Jr rfl)<|q8 (qU rfl) (fun h2=> ?_) (fun h2=> ?_)
 refine qY 11 rfl ?_
 exact qL () Qn ((.e rfl (congrArg Value.bool (by simp_all)) (.c rfl .n))) (o0 rfl) ((.of [0,1] rfl))
 refine zE (zb yc rfl z8 rfl rfl)<|zw (za 0 z4 rfl rfl (.s2 (.t2 .nil)))<|qg (qS rfl) zP (Wk qB) (qX 1 rfl)<|zE (Jr rfl)<|kS 1 rfl<|q8 (qU rfl) (fun h3=> ?_) (fun h3=> ?_)
 refine qY 5 rfl ?_
 exact qL () Qn ((.e rfl (congrArg Value.bool (by simp_all)) (.c rfl .n))) (o0 rfl) ((.of [0,1] rfl))
 refine zE (zb yc rfl z8 rfl rfl)<|zw (za 0 z4 rfl rfl (.s2 (.t2 .nil)))<|qg (qS rfl) zP (zgg qB) (qX 1 rfl)<|qY 2 rfl ?_
 exact qL () Qn ((.e rfl (congrArg Value.bool (by exact decide_eq_decide.2 (Big.zmB (yK.1 ‹_›) (yK.1 ‹_›)))) (.c rfl .n))) (o0 rfl) ((.of [0,1] rfl))
 rintro ⟨⟩ -
 refine zx rfl (fun hc=> ?_) (fun hc=> ?_)
 refine Zn 1 rfl<|zD ?_
 exact zq rfl () trivial (zj rfl) (congrArg Value.bool (decide_eq_false (fun h=>hc ⟨h.1,h.2.1,h.2.2.1⟩))) oN sN
 refine kk8<|zE (zb yc rfl z8 rfl rfl)<|zw (za 0 z4 rfl rfl (.t2 .nil))<|zE (zb yc rfl z8 rfl rfl)<|zw (za 0 z4 rfl rfl (.s2 (.t2 .nil)))<|zm (q7 rfl rfl) zP (zjM qB qB zL zL) (vj 0 1 rfl rfl) ?_
 rintro ⟨p34,c35⟩ -
 refine zm (qS rfl) zP (zmV zL) (.n) ?_
 rintro ⟨p26,c27⟩ -
 refine qg (q7 rfl rfl) zP zau (vj 1 0)<|Zp 2 rfl ?_
 exact zq rfl () trivial (zj rfl) (congrArg Value.bool (decide_eq_decide.2 (Big.zjA (x:=((s,l1),(t,l2))) (yK.1 hc)).symm)) oN sN
theorem Jy {w1:Wd} {w2:Wd} {x1:Int} {x2:Int} (hl1:yi x1≤1099511627776) (hl2:yi x2≤1099511627776) (hd:x2≠0):CB 140 [.agg #[w1.b,w1.l],.agg #[w2.b,w2.l]] [zF w1 x1,zF w2 x2] (Y:=Wd×Wd) (fun y=> .agg #[y.1.b,y.1.l,y.2.b,y.2.l]) (fun y=>[qF true y.1 y.2 (yS x1 x2)]):=by
 refine zg Tryz.func140 rfl rfl (fun c=> ?_)
 refine vg<|zB (zX rfl rfl) (fun b1=> ?_)
 refine zB (zX rfl rfl) (fun b2=> ?_)
 refine zB (zo vh rfl) (fun b3=> ?_)
 refine ZI<|vg<|zw (za 1 z4 rfl rfl (.t2 .nil))<|qg (qS rfl) zP QP (qX 1 rfl)<|vZ 1 rfl<|zx rfl (fun hneg=> ?_) (fun hneg=> ?_)
 have hs:x2<0:=by rcases Big.VD (x:=x2) with h|h|h <;> omega
 have hgp:=Big.ZD (n:= -x1) (d:= -x2) om
 have hgl:=Big.KQ (n:= -x1) (d:= -x2) om
 rw [ys] at hgl
 obtain ⟨a0,a1⟩:=Big.zf6 (n:=x1) hs
 refine vk (.c (i:=2) rfl (.c (i:=1) rfl (.c (i:=0) rfl .n)))<|rd2 4<|qy 0 rfl (za 0 z4 rfl rfl (.t2 .nil))<|qy 2 rfl (za 1 z4 rfl rfl (.t2 .nil))<|zt 1 (zp rfl (qS rfl) zP (zaw zL) (qX 0 rfl) ?_)
 rintro w34 -
 refine zt 3 (zp rfl (qS rfl) zP (zaw zL) (qX 2 rfl) ?_)
 rintro w35 -
 refine zt 4 (zH rfl rfl rfl rfl z8 (.t2 .nil) ?_)
 refine Zc (qP (i:=1) rfl)<|zt 5 (zH rfl rfl rfl rfl z8 (.t2 .nil) ?_)
 refine zU kr<|zi<|qe<|zv<|zw (za 1 z4 rfl rfl (.t2 .nil))<|zw (za 0 z4 rfl rfl (.t2 .nil))<|zm (.c rfl (.c rfl .n)) zP (KY (by first|rfl|assumption|omega|(rw [ys];omega)|(decide +kernel)) (by first|rfl|assumption|omega|(rw [ys];omega)|(decide +kernel))) (vj 1 0 rfl rfl) ?_
 rintro w36 -
 refine zB (zo jo rfl) (fun b7=> ?_)
 refine zh 0 rfl rfl rfl rfl z8 (.t2 .nil) .z ?_
 refine jq<|zi<|vg<|zw (za 2 z4 rfl rfl (.t2 .nil))<|zw (za 0 z4 rfl rfl (.t2 .nil))<|zm (.c rfl (.c rfl .n)) zP (Qe (by first|rfl|assumption|omega|(rw [ys];omega)|(decide +kernel)) (by first|rfl|assumption|omega|(rw [ys];omega)|(decide +kernel)) (by first|rfl|assumption|omega|(rw [ys];omega)|(decide +kernel))) (vj 2 0 rfl rfl) ?_
 rintro ⟨a2,w49⟩ -
 dsimp only [aq,nq,cq]
 refine kS 4 rfl<|zh 2 rfl rfl rfl rfl z8 (.t2 .nil) (.s (.s .z)) ?_
 refine jq<|zi<|vg<|zw (za 1 z4 rfl rfl (.t2 .nil))<|zw (za 0 z4 rfl rfl (.t2 .nil))<|zm (.c rfl (.c rfl .n)) zP (Qe (by first|rfl|assumption|omega|(rw [ys];omega)|(decide +kernel)) (by first|rfl|assumption|omega|(rw [ys];omega)|(decide +kernel)) (by first|rfl|assumption|omega|(rw [ys];omega)|(decide +kernel))) (vj 3 2 rfl rfl) ?_
 rintro ⟨a3,a6⟩ -
 refine kS 4 rfl<|zh 1 rfl rfl rfl rfl z8 (.t2 .nil) (.s .z)<|Vj<|zw (za 2 z4 rfl rfl (.t2 .nil))<|zw (za 1 z4 rfl rfl (.t2 .nil))<|zE (qr vh rfl yc (.c z8 (.c z8 .n)) (.c rfl (.c rfl .n)) (.c rfl rfl rfl (.t2 .nil) (.c rfl rfl rfl (.s2 (.t2 .nil)) .n)))<|zh 3 rfl rfl rfl rfl qk (.t4 .nil) (.s (.s (.s .z)))<|Va<|Vm (qF true a2 a3 (yS x1 x2)) (QZ 2 0 rfl rfl (by exact ⟨a0,a1,yJ (Big.Zr hd) om⟩)) ?_
 exact zq rfl (a2,a3) trivial (zy 3 qp rfl rfl (.t4 .nil)) rfl oN (s0 rfl)
 have hs:0<x2:=by rcases Big.VD (x:=x2) with h|h|h <;> omega
 have hgp:=Big.ZD (n:=x1) (d:=x2) om
 have hgl:=Big.KQ (n:=x1) (d:=x2) om
 obtain ⟨a0,a1⟩:=Big.zeD (n:=x1) hs
 refine kk8<|zw (za 2 z4 rfl rfl (.t2 .nil))<|zw (za 1 z4 rfl rfl (.t2 .nil))<|zm (q7 rfl rfl) zP (KY zL zL) (vj 0 1 rfl rfl) ?_
 rintro a7 -
 refine zB (zo jo rfl) (fun b13=> ?_)
 refine zh 0 rfl rfl rfl rfl z8 (.t2 .nil) .z<|Vj<|zw (za 3 z4 rfl rfl (.t2 .nil))<|zw (za 0 z4 rfl rfl (.t2 .nil))<|zm (q7 rfl rfl) zP (Qe zL zL zL) (vj 1 0 rfl rfl) ?_
 rintro ⟨a4,a8⟩ -
 refine kS 4 rfl<|zh 3 rfl rfl rfl rfl z8 (.t2 .nil) (.s (.s (.s .z)))<|Vj<|zw (za 2 z4 rfl rfl (.t2 .nil))<|zw (za 0 z4 rfl rfl (.t2 .nil))<|zm (q7 rfl rfl) zP (Qe zL zL zL) (vj 4 2 rfl rfl) ?_
 rintro ⟨a5,a9⟩ -
 refine kS 4 rfl<|zh 2 rfl rfl rfl rfl z8 (.t2 .nil) (.s (.s .z))<|Vj<|zw (za 3 z4 rfl rfl (.t2 .nil))<|zw (za 2 z4 rfl rfl (.t2 .nil))<|zE (qr vh rfl yc (.c z8 (.c z8 .n)) (.c rfl (.c rfl .n)) (.c rfl rfl rfl (.t2 .nil) (.c rfl rfl rfl (.s2 (.t2 .nil)) .n)))<|zh 1 rfl rfl rfl rfl qk (.t4 .nil) (.s .z)<|Va<|Vm (qF true a4 a5 (yS x1 x2)) (QZ 2 0 rfl rfl (by exact ⟨a0,a1,yJ (Big.Zr hd) om⟩)) ?_
 exact zq rfl (a4,a5) trivial (zy 1 qp rfl rfl (.t4 .nil)) rfl oN (s0 rfl)
theorem zh1 {s:Bool} {p1:Option Addr} {n1:Nat} {c1:Nat} {l1:List Int} {t:Bool} {p2:Option Addr} {n2:Nat} {c2:Nat} {l2:List Int} (hn1:l1.length=n1) (hn2:l2.length=n2) (hm1:n1≤1099511627776) (hm2:n2≤1099511627776) (hq:Big.qok ((s,l1),(t,l2))):CB 169 [.agg #[.bool s,.slice p1 n1 c1,.bool t,.slice p2 n2 c2]] [zI (rI .u32) p1 c1 l1,zI (rI .u32) p2 c2 l2] (Y:=(Option Addr)×Nat×(Option Addr)×Nat) (fun y=> .agg #[.bool (decide (((yz ((s,l1),(t,l2))).num)<0)),.slice (y.1) ((ya (((yz ((s,l1),(t,l2))).num).natAbs)).length) (y.2.1),.bool (decide ((((yz ((s,l1),(t,l2))).den:Nat):Int)<0)),.slice (y.2.2.1) ((ya ((((yz ((s,l1),(t,l2))).den:Nat):Int).natAbs)).length) (y.2.2.2)]) (fun y=>[zI (rI .u32) (y.1) (y.2.1) (ya (((yz ((s,l1),(t,l2))).num).natAbs)),zI (rI .u32) (y.2.2.1) (y.2.2.2) (ya ((((yz ((s,l1),(t,l2))).den:Nat):Int).natAbs))]):=by
 refine zg Tryz.func169 rfl rfl (fun c=> ?_)
 refine zN 0 rfl (fun hL0=> ?_)
 refine jZ 0 rfl (fun a2=> ?_)
 refine zN 1 rfl (fun hL1=> ?_)
 refine jZ 1 rfl (fun a3=> ?_)
 have a4:yr l1:=fun g hg=>(zO.1 (a2 g hg)).1
 have a5:yr l2:=fun g hg=>(zO.1 (a3 g hg)).1
 have hb1:yi (yg s l1)≤n1:=by have:=yC (s:=s) a4;omega
 have hb2:yi (yg t l2)≤n2:=by have:=yC (s:=t) a5;omega
 refine vg<|zB (zX rfl rfl) (fun b1=> ?_)
 refine zB (zo vh rfl) (fun b2=> ?_)
 refine ZI<|Vk 9<|zC 0 rfl (zb yc rfl z8 rfl rfl)<|qy 1 rfl (za 1 z4 rfl rfl (.t2 .nil))<|zC 4 rfl (zb yc rfl z8 rfl rfl)<|qy 5 rfl (za 1 z4 rfl rfl (.s2 (.t2 .nil)))<|zt 2 (zp rfl (qS rfl) zP (zeQ qB zL) (qX 0 rfl) ?_)
 rintro ⟨p23,c24⟩ -
 dsimp only [aq,nq,cq]
 refine zt 3 (zp rfl (.c rfl .n) zP (zcS (by first|rfl|assumption|omega|(rw [ys];omega)|(decide +kernel))) (qX 0) ?_)
 rintro ⟨a6,a7⟩ -
 refine zt 6 (zp rfl (qS rfl) zP (zeQ qB zL) (qX 3 rfl) ?_)
 rintro ⟨p27,c28⟩ -
 dsimp only [aq,nq,cq]
 refine zt 7 (zp rfl (.c rfl .n) zP (zcS (by first|rfl|assumption|omega|(rw [ys];omega)|(decide +kernel))) (qX 0) ?_)
 rintro ⟨a8,a9⟩ -
 refine zC 8 rfl (qr vh rfl yc (.c z8 (.c z8 .n)) (.c rfl (.c rfl .n)) (.c rfl rfl rfl (.t2 .nil) (.c rfl rfl rfl (.s2 (.t2 .nil)) .n)))<|zt 9 (zH rfl rfl rfl rfl qk (.t4 .nil) ?_)
 refine zU kr<|zi<|vv ?_
 have a0: - - yg s l1=(yz ((s,l1),(t,l2))).num:=by rw [Int.neg_neg];exact (Big.VJ hq).1.symm
 have a1: - - yg t l2=(((yz ((s,l1),(t,l2))).den:Nat):Int):=by rw [Int.neg_neg];exact (Big.VJ hq).2.symm
 exact zq rfl (a6,a7,a8,a9) trivial (zy 0 qp rfl rfl (.t4 .nil)) (by rw [a0,a1]) oN ((.e (j:=2) rfl (by rw [a0]) (.e (j:=0) rfl (by rw [a1]) .n)))
theorem zgk {n1:Nat}  {l1:List Int} {t:Bool}  {n2:Nat}  {l2:List Int} (hn1:l1.length=n1) (hn2:l2.length=n2) (hm1:n1≤1099511627776) (hm2:n2≤1099511627776) (hq:Big.qok ((s,l1),(t,l2))) (hl:ym (yz ((s,l1),(t,l2)))≤1099511627776):jI yh 169 [.agg #[.bool (s),.slice (p1) (n1) (c1),.bool (t),.slice (p2) (n2) (c2)]] [] [zI (rI .u32) (p1) (c1) (l1),zI (rI .u32) (p2) (c2) (l2)] (Y:=(Wd)×(Wd)) (fun y=>True) (fun y=> .agg #[y.1.b,y.1.l,y.2.b,y.2.l]) (fun y=>[]) (fun y=>[qF true y.1 y.2 (yz ((s,l1),(t,l2)))]):=by
  exact zsk (zh1 hn1 hn2 hm1 hm2 hq) rfl rfl hl
theorem j4 {z:Int} (hz: -9223372036854775808≤z∧z≤9223372036854775807):CB 52 [.int .i64 z] [] (Y:=Wd×Wd) (fun y=> .agg #[y.1.b,y.1.l,y.2.b,y.2.l]) (fun y=>[qF true y.1 y.2 ((z:Int):Rat)]):=by
 refine zg Tryz.func52 rfl rfl (fun c=> ?_)
 refine vg<|zB (zo vh rfl) (fun b1=> ?_)
 refine k40 1 rfl<|zm (qS rfl) zP (jL qB) (.n) ?_
 rintro a0 -
 refine zm (qS rfl) zP (jL zL) (.n) ?_
 rintro a1 -
 refine zE (qr vh rfl yc (.c z8 (.c z8 .n)) (.c rfl (.c rfl .n)) (.c rfl rfl rfl (.t2 .nil) (.c rfl rfl rfl (.s2 (.t2 .nil)) .n)))<|zh 0 rfl rfl rfl rfl qk (.t4 .nil) .z<|Va<|Vm (qF true a0 a1 ((z:Int):Rat)) (QZ 1 0 rfl rfl (by exact ⟨(Rat.num_intCast z).symm,by rw [Rat.den_intCast];rfl,yJ (Big.zmx hz.1 hz.2) dd⟩)) ?_
 exact zq rfl (a0,a1) trivial (zy 0 qp rfl rfl (.t4 .nil)) rfl oN (s0 rfl)
theorem zh2 {s:Bool} {p1:Option Addr} {n1:Nat} {c1:Nat} {l1:List Int} {t:Bool} {p2:Option Addr} {n2:Nat} {c2:Nat} {l2:List Int} (hn1:l1.length=n1) (hn2:l2.length=n2) (hm1:n1≤1099511627776) (hm2:n2≤1099511627776):CB 85 [.agg #[.bool s,.slice p1 n1 c1,.bool t,.slice p2 n2 c2]] [zI (rI .u32) p1 c1 l1,zI (rI .u32) p2 c2 l2] (Y:=Wd×Wd) (fun y=> .agg #[y.1.b,y.1.l,y.2.b,y.2.l]) (fun y=>[qF true y.1 y.2 (yz ((s,l1),(t,l2)))]):=by
 refine zg Tryz.func85 rfl rfl (fun c=> ?_)
 refine zN 0 rfl (fun hL0=> ?_)
 refine jZ 0 rfl (fun a2=> ?_)
 refine zN 1 rfl (fun hL1=> ?_)
 refine jZ 1 rfl (fun a3=> ?_)
 have a0:yr l1:=fun g hg=>(zO.1 (a2 g hg)).1
 have a1:yr l2:=fun g hg=>(zO.1 (a3 g hg)).1
 have hb1:yi (yg s l1)≤n1:=by have:=yC (s:=s) a0;omega
 have hb2:yi (yg t l2)≤n2:=by have:=yC (s:=t) a1;omega
 refine vg<|zB (zX rfl rfl) (fun b1=> ?_)
 refine zB (zo vh rfl) (fun b2=> ?_)
 refine ZI<|vg<|zw (za 1 qp rfl rfl (.t4 .nil))<|qg (qS rfl) zP (zcT qB qB qB qB) (vj 0 1 rfl rfl)<|Vc<|zx rfl (fun hq=> ?_) (fun hq=> ?_)
 have hrp:=Big.zdQ (x:=((s,l1),(t,l2))) a0 a1 hq
 have hqp:=Big.VJ (x:=((s,l1),(t,l2))) hq
 have hl:ym (yz ((s,l1),(t,l2)))≤1099511627776:=by unfold ym;rw [hqp.1,hqp.2];dsimp only;omega
 refine vg<|zw (za 1 qp rfl rfl (.t4 .nil))<|zm (qS rfl) zP (zgk qB qB qB qB zL zL) (vj 0 1 rfl rfl) ?_
 rintro ⟨a4,a5⟩ -
 refine zh 0 rfl rfl rfl rfl qk (.t4 .nil) .z<|Va<|zD ?_
 exact zq rfl (a4,a5) trivial (zy 0 qp rfl rfl (.t4 .nil)) rfl oN (s0 rfl)
 have hz:=Big.zeB (x:=((s,l1),(t,l2))) hq
 refine kk8<|zm (qS rfl) zP (j4 zL) (.n) ?_
 rintro ⟨a6,a7⟩ -
 refine zh 0 rfl rfl rfl rfl qk (.t4 .nil) .z<|Va ?_
 exact zq rfl (a6,a7) trivial (zy 0 qp rfl rfl (.t4 .nil)) rfl oN ((.e (j:=0) rfl (by rw [hz];rfl) .n))
theorem jv :jI yh 85 [.agg #[u1.b,u1.l,v1.b,v1.l]] [] [qF k1 u1 v1 (q1)] (Y:=(Wd)×(Wd)) (fun y=>True) (fun y=> .agg #[y.1.b,y.1.l,y.2.b,y.2.l]) (fun y=>[]) (fun y=>[qF true y.1 y.2 (q1)]):=by
  exact zjD (fun x hx hk h1 h2 hl=>by subst hx;exact zh2 rfl rfl h1 h2)
theorem Vt {k1:Bool} {u1:Wd} {v1:Wd} {q1:Rat}:CA 80 [.agg #[u1.b,u1.l,v1.b,v1.l]] [qF k1 u1 v1 q1] (.int .i64 (Big.Zv q1)):=by
 refine zg Tryz.func80 rfl rfl (fun c=> ?_)
 refine vg<|zB (zX rfl rfl) (fun b1=> ?_)
 refine jD 1 rfl<|zw (za 0 qp rfl rfl (.t4 .nil))<|zm (qS rfl) zP jv (qX 0 rfl) ?_
 rintro ⟨w33,w44⟩ -
 refine zE (W8 yc rfl z4 rfl (.t2 .nil))<|Vf (jp 0 rfl) (fun _ _=> ?_)
 refine qg (qS rfl) zP QP (qX 0 rfl)<|Zp 1 rfl ?_
 exact zq rfl () trivial (zj rfl) rfl oN sN
theorem zcU {k1:Bool} {u1:Wd} {v1:Wd} {q1:Rat} (hl:ym q1≤1099511627776):CB 54 [.agg #[u1.b,u1.l,v1.b,v1.l]] [qF k1 u1 v1 q1] (Y:=Wd×Wd) (fun y=> .agg #[y.1.b,y.1.l,y.2.b,y.2.l]) (fun y=>[qF true y.1 y.2 (- q1)]):=by
 refine zg Tryz.func54 rfl rfl (fun c=> ?_)
 have a1:=yt q1
 have a2:=yu q1
 refine vg<|zB (zX rfl rfl) (fun b1=> ?_)
 refine zB (zo vh rfl) (fun b2=> ?_)
 refine Vj<|zw (za 1 qp rfl rfl (.t4 .nil))<|zm (qS rfl) zP jv (qX 0 rfl) ?_
 rintro ⟨w33,a0⟩ -
 refine zh 1 rfl rfl rfl rfl qk (.t4 .nil) (.s .z)<|ZI<|Vk 6<|zC 0 rfl (zb yc rfl z8 rfl rfl)<|qy 1 rfl (za 1 z4 rfl rfl (.t2 .nil))<|zC 3 rfl (zb yc rfl z8 rfl rfl)<|qy 4 rfl (za 1 z4 rfl rfl (.s2 (.t2 .nil)))<|ZG (jp 0 rfl) (fun _ _=> ?_)
 refine zt 2 (zp rfl (qS rfl) zP (zaw zL) (qX 0 rfl) ?_)
 rintro a3 -
 refine zC 5 rfl (qr vh rfl yc (.c z8 (.c z8 .n)) (.c rfl (.c rfl .n)) (.c rfl rfl rfl (.t2 .nil) (.c rfl rfl rfl (.s2 (.t2 .nil)) .n)))<|zt 6 (zH rfl rfl rfl rfl qk (.t4 .nil) ?_)
 refine zU kr<|zi<|vv<|Vm (qF true a3 a0 (- q1)) (QZ 0 2 rfl rfl (by exact ⟨(Rat.neg_num q1).symm,by rw [Rat.neg_den],by rw [Big.KN];exact hl⟩)) ?_
 exact zq rfl (a3,a0) trivial (zy 0 qp rfl rfl (.t4 .nil)) rfl oN (s0 rfl)
theorem Ji {k1:Bool} {u1:Wd} {v1:Wd} {q1:Rat} {k2:Bool} {u2:Wd} {v2:Wd} {q2:Rat} (hl:ym q1+ym q2+1≤1099511627776):CB 57 [.agg #[u1.b,u1.l,v1.b,v1.l],.agg #[u2.b,u2.l,v2.b,v2.l]] [qF k1 u1 v1 q1,qF k2 u2 v2 q2] (Y:=Wd×Wd) (fun y=> .agg #[y.1.b,y.1.l,y.2.b,y.2.l]) (fun y=>[qF true y.1 y.2 (q1+q2)]):=by
 refine zg Tryz.func57 rfl rfl (fun c=> ?_)
 have a1:=yt q1
 have a2:=yu q1
 have a3:=yt q2
 have a4:=yu q2
 have b1:=yo q1.num q2.den
 have b2:=yo q2.num q1.den
 have b3:=Big.QJ (q1.num*q2.den) (q2.num*q1.den)
 have b4:=yo (q1.den:Int) q2.den
 have b5:=yo q1.num q2.num
 refine vg<|zB (zX rfl rfl) (fun b1=> ?_)
 refine zB (zX rfl rfl) (fun b2=> ?_)
 refine zB (zo vh rfl) (fun b3=> ?_)
 refine ZI<|vk (.c (i:=2) rfl (.c (i:=1) rfl (.c (i:=0) rfl .n)))<|rd2 4<|qy 0 rfl (za 0 qp rfl rfl (.t4 .nil))<|qy 2 rfl (za 1 qp rfl rfl (.t4 .nil))<|zt 1 (zp rfl (qS rfl) zP jv (qX 0 rfl) ?_)
 rintro ⟨w34,w45⟩ -
 refine zt 3 (zp rfl (qS rfl) zP jv (qX 2 rfl) ?_)
 rintro ⟨w36,w47⟩ -
 refine zt 4 (zH rfl rfl rfl rfl qk (.t4 .nil) ?_)
 refine Zc (qP (i:=1) rfl)<|zt 5 (zH rfl rfl rfl rfl qk (.t4 .nil) ?_)
 refine zU kr<|zi<|qe<|vk (.c (i:=2) rfl (.c (i:=0) rfl (.c (i:=0) rfl .n)))<|Vk 17<|zC 0 rfl (zb yc rfl z8 rfl rfl)<|qy 1 rfl (za 2 z4 rfl rfl (.t2 .nil))<|zC 2 rfl (zb yc rfl z8 rfl rfl)<|qy 3 rfl (za 1 z4 rfl rfl (.s2 (.t2 .nil)))<|zC 5 rfl (zb yc rfl z8 rfl rfl)<|qy 6 rfl (za 1 z4 rfl rfl (.t2 .nil))<|zC 7 rfl (zb yc rfl z8 rfl rfl)<|qy 8 rfl (za 2 z4 rfl rfl (.s2 (.t2 .nil)))<|zC 11 rfl (zb yc rfl z8 rfl rfl)<|qy 12 rfl (za 2 z4 rfl rfl (.s2 (.t2 .nil)))<|zC 13 rfl (zb yc rfl z8 rfl rfl)<|qy 14 rfl (za 1 z4 rfl rfl (.s2 (.t2 .nil)))<|ZG (jp 1 rfl) (fun _ _=> ?_)
 refine ZG (jp 2 rfl) (fun _ _=> ?_)
 refine zt 4 (zp rfl (q7 rfl rfl) zP (ju zL zL) (vj 2 1 rfl rfl) ?_)
 rintro w38 -
 refine zt 9 (zp rfl (q7 rfl rfl) zP (ju zL zL) (vj 1 4 rfl rfl) ?_)
 rintro w39 -
 refine zt 10 (zp rfl (q7 rfl rfl) zP (zgh zL zL) (vj 1 0 rfl rfl) ?_)
 rintro a6 -
 refine zt 15 (zp rfl (q7 rfl rfl) zP (ju zL zL) (vj 6 4 rfl rfl) ?_)
 rintro a7 -
 refine zt 16 (zp rfl (q7 rfl rfl) zP (Jy zL zL (by exact yV (Big.ZJ q1) (Big.ZJ q2))) (vj 1 0 rfl rfl) ?_)
 rintro ⟨a0,a5⟩ -
 refine zt 17 (zH rfl rfl rfl rfl qk (.t4 .nil) ?_)
 refine zU kr<|zi<|vv ?_
 exact zq rfl (a0,a5) trivial (zy 0 qp rfl rfl (.t4 .nil)) rfl oN ((.e (j:=0) rfl (by rw [Big.za4]) .n))
theorem Jj {k1:Bool} {u1:Wd} {v1:Wd} {q1:Rat} {k2:Bool} {u2:Wd} {v2:Wd} {q2:Rat} (hl:ym q1+ym q2+1≤1099511627776):CB 56 [.agg #[u1.b,u1.l,v1.b,v1.l],.agg #[u2.b,u2.l,v2.b,v2.l]] [qF k1 u1 v1 q1,qF k2 u2 v2 q2] (Y:=Wd×Wd) (fun y=> .agg #[y.1.b,y.1.l,y.2.b,y.2.l]) (fun y=>[qF true y.1 y.2 (q1*q2)]):=by
 refine zg Tryz.func56 rfl rfl (fun c=> ?_)
 have a1:=yt q1
 have a2:=yu q1
 have a3:=yt q2
 have a4:=yu q2
 have b1:=yo q1.num q2.den
 have b2:=yo q2.num q1.den
 have b3:=Big.QJ (q1.num*q2.den) (q2.num*q1.den)
 have b4:=yo (q1.den:Int) q2.den
 have b5:=yo q1.num q2.num
 refine vg<|zB (zX rfl rfl) (fun b1=> ?_)
 refine zB (zX rfl rfl) (fun b2=> ?_)
 refine zB (zo vh rfl) (fun b3=> ?_)
 refine ZI<|vk (.c (i:=2) rfl (.c (i:=1) rfl (.c (i:=0) rfl .n)))<|rd2 4<|qy 0 rfl (za 0 qp rfl rfl (.t4 .nil))<|qy 2 rfl (za 1 qp rfl rfl (.t4 .nil))<|zt 1 (zp rfl (qS rfl) zP jv (qX 0 rfl) ?_)
 rintro ⟨w34,w45⟩ -
 refine zt 3 (zp rfl (qS rfl) zP jv (qX 2 rfl) ?_)
 rintro ⟨w36,w47⟩ -
 refine zt 4 (zH rfl rfl rfl rfl qk (.t4 .nil) ?_)
 refine Zc (qP (i:=1) rfl)<|zt 5 (zH rfl rfl rfl rfl qk (.t4 .nil) ?_)
 refine zU kr<|zi<|qe<|vk (.c (i:=2) rfl (.c (i:=0) rfl (.c (i:=0) rfl .n)))<|Vk 11<|zC 0 rfl (zb yc rfl z8 rfl rfl)<|qy 1 rfl (za 2 z4 rfl rfl (.t2 .nil))<|zC 2 rfl (zb yc rfl z8 rfl rfl)<|qy 3 rfl (za 1 z4 rfl rfl (.t2 .nil))<|zC 5 rfl (zb yc rfl z8 rfl rfl)<|qy 6 rfl (za 2 z4 rfl rfl (.s2 (.t2 .nil)))<|zC 7 rfl (zb yc rfl z8 rfl rfl)<|qy 8 rfl (za 1 z4 rfl rfl (.s2 (.t2 .nil)))<|ZG (jp 1 rfl) (fun _ _=> ?_)
 refine ZG (jp 2 rfl) (fun _ _=> ?_)
 refine zt 4 (zp rfl (q7 rfl rfl) zP (ju zL zL) (vj 2 0 rfl rfl) ?_)
 rintro w38 -
 refine zt 9 (zp rfl (q7 rfl rfl) zP (ju zL zL) (vj 4 2 rfl rfl) ?_)
 rintro w39 -
 refine zt 10 (zp rfl (q7 rfl rfl) zP (Jy zL zL (by exact yV (Big.ZJ q1) (Big.ZJ q2))) (vj 1 0 rfl rfl) ?_)
 rintro ⟨a0,a5⟩ -
 refine zt 11 (zH rfl rfl rfl rfl qk (.t4 .nil) ?_)
 refine zU kr<|zi<|vv ?_
 exact zq rfl (a0,a5) trivial (zy 0 qp rfl rfl (.t4 .nil)) rfl oN ((.e (j:=0) rfl (by rw [Big.za5]) .n))
theorem zgl {k1:Bool} {u1:Wd} {v1:Wd} {q1:Rat} {k2:Bool} {u2:Wd} {v2:Wd} {q2:Rat} (hl:ym q1+ym q2+1≤1099511627776):CB 147 [.agg #[u1.b,u1.l,v1.b,v1.l],.agg #[u2.b,u2.l,v2.b,v2.l]] [qF k1 u1 v1 q1,qF k2 u2 v2 q2] (Y:=Wd×Wd) (fun y=> .agg #[y.1.b,y.1.l,y.2.b,y.2.l]) (fun y=>[qF true y.1 y.2 (q1 - q2)]):=by
 refine zg Tryz.func147 rfl rfl (fun c=> ?_)
 have a1:=yt q1
 have a2:=yu q1
 have a3:=yt q2
 have a4:=yu q2
 refine vg<|zB (zX rfl rfl) (fun b1=> ?_)
 refine zB (zX rfl rfl) (fun b2=> ?_)
 refine zB (zo vh rfl) (fun b3=> ?_)
 refine ZI<|Vk 4<|qy 0 rfl (za 2 qp rfl rfl (.t4 .nil))<|qy 1 rfl (za 1 qp rfl rfl (.t4 .nil))<|zt 2 (zp rfl (qS rfl) zP (zcU zL) (qX 1 rfl) ?_)
 rintro ⟨w34,w45⟩ -
 dsimp only [aq,nq,cq]
 refine zt 3 (zp rfl (.c rfl (.c rfl .n)) zP (Ji (by first|rfl|assumption|omega|(rw [ys];omega)|(decide +kernel)|(rw [Big.KN];omega))) (vj 1 0 rfl rfl) ?_)
 rintro ⟨a0,a5⟩ -
 refine zt 4 (zH rfl rfl rfl rfl qk (.t4 .nil) ?_)
 refine zU kr<|zi<|vv ?_
 exact zq rfl (a0,a5) trivial (zy 0 qp rfl rfl (.t4 .nil)) rfl oN ((.e (j:=0) rfl (by rw [yam]) .n))
theorem zeR {k1:Bool} {u1:Wd} {v1:Wd} {q1:Rat} {k2:Bool} {u2:Wd} {v2:Wd} {q2:Rat} (hl:ym q1+ym q2+1≤1099511627776):CA 179 [.agg #[u1.b,u1.l,v1.b,v1.l],.agg #[u2.b,u2.l,v2.b,v2.l]] [qF k1 u1 v1 q1,qF k2 u2 v2 q2] (.int .i64 (Big.Zv (q1 - q2))):=by
 refine zg Tryz.func179 rfl rfl (fun c=> ?_)
 have a1:=yt q1
 have a2:=yu q1
 have a3:=yt q2
 have a4:=yu q2
 have b1:=yo q1.num q2.den
 have b2:=yo q2.num q1.den
 have b3:=Big.QJ (q1.num*q2.den) (q2.num*q1.den)
 have b4:=yo (q1.den:Int) q2.den
 have b5:=yo q1.num q2.num
 refine vg<|zB (zX rfl rfl) (fun b1=> ?_)
 refine zB (zX rfl rfl) (fun b2=> ?_)
 refine jn 1 rfl<|vk (.c (i:=1) rfl (.c (i:=0) rfl .n))<|rd2 4<|qy 0 rfl (za 0 qp rfl rfl (.t4 .nil))<|qy 2 rfl (za 1 qp rfl rfl (.t4 .nil))<|zt 1 (zp rfl (qS rfl) zP jv (qX 0 rfl) ?_)
 rintro ⟨w33,w44⟩ -
 refine zt 3 (zp rfl (qS rfl) zP jv (qX 2 rfl) ?_)
 rintro ⟨w35,w46⟩ -
 refine zt 4 (zH rfl rfl rfl rfl qk (.t4 .nil) ?_)
 refine Zc (qP (i:=1) rfl)<|zt 5 (zH rfl rfl rfl rfl qk (.t4 .nil) ?_)
 refine zU kr<|zi<|qe<|Jo 100000<|zC 0 rfl (zb yc rfl z8 rfl rfl)<|vE 1 rfl (za 1 z4 rfl rfl (.t2 .nil))<|zC 2 rfl (zb yc rfl z8 rfl rfl)<|vE 3 rfl (za 0 z4 rfl rfl (.s2 (.t2 .nil)))<|zC 5 rfl (zb yc rfl z8 rfl rfl)<|vE 6 rfl (za 0 z4 rfl rfl (.t2 .nil))<|zC 7 rfl (zb yc rfl z8 rfl rfl)<|vE 8 rfl (za 1 z4 rfl rfl (.s2 (.t2 .nil)))<|ZG (jp 1 rfl) (fun _ _=> ?_)
 refine ZG (jp 2 rfl) (fun _ _=> ?_)
 refine zt 4 (zp rfl (q7 rfl rfl) zP (ju zL zL) (vj 2 1 rfl rfl) ?_)
 rintro w37 -
 refine zt 9 (zp rfl (q7 rfl rfl) zP (ju zL zL) (vj 1 4 rfl rfl) ?_)
 rintro w38 -
 refine zt 10 (jU rfl (q7 rfl rfl) zP zav (vj 1 0 rfl rfl) ?_)
 refine zC 11 rfl (zT rfl)<|zU kr<|zi<|vv ?_
 exact zq rfl () trivial (zj rfl) (by rw [Big.zpx]) oN sN
theorem zby {w1:Wd} {x1:Int}:CB 207 [.agg #[w1.b,w1.l]] [zF w1 x1] (Y:=Wd) (fun y=> .agg #[y.b,y.l]) (fun y=>[zF y x1]):=by
 refine zg Tryz.func207 rfl rfl (fun c=> ?_)
 refine vg<|zB (zX rfl rfl) (fun b1=> ?_)
 refine zB (zo jo rfl) (fun b2=> ?_)
 refine ZI<|vg<|zw (za 1 z4 rfl rfl (.t2 .nil))<|qg (qS rfl) zP zcQ (qX 0 rfl)<|Vc<|jl rfl<|vg<|zw (za 1 z4 rfl rfl (.t2 .nil))<|zh 0 rfl rfl rfl rfl z8 (.t2 .nil) .z<|Va<|zD ?_
 exact zq rfl w1 trivial (zy 0 z4 rfl rfl (.t2 .nil)) rfl oN (s0 rfl)
theorem zjN {w1:Wd} {w2:Wd} {x1:Int} {x2:Int} (hl1:yi x1≤1099511627776) (hl2:yi x2≤1099511627776):CB 129 [.agg #[w1.b,w1.l],.agg #[w2.b,w2.l]] [zF w1 x1,zF w2 x2] (Y:=Wd×Wd) (fun y=> .tuple #[.agg #[y.1.b,y.1.l,y.2.b,y.2.l],.int .i64 (if x2=0 then 14 else 0)]) (fun y=>[qF (decide (x2≠0)) y.1 y.2 (yS x1 x2)]):=by
 refine zg Tryz.func129 rfl rfl (fun c=> ?_)
 refine vg<|zB (zX rfl rfl) (fun b1=> ?_)
 refine zB (zX rfl rfl) (fun b2=> ?_)
 refine zB (zo vh rfl) (fun b3=> ?_)
 refine jn 1 rfl<|vk (.c (i:=2) rfl (.c (i:=1) rfl (.c (i:=0) rfl .n)))<|rd2 4<|qy 0 rfl (za 0 z4 rfl rfl (.t2 .nil))<|qy 2 rfl (za 1 z4 rfl rfl (.t2 .nil))<|zt 1 (zp rfl (qS rfl) zP zby (qX 0 rfl) ?_)
 rintro w34 -
 refine zt 3 (zp rfl (qS rfl) zP zby (qX 2 rfl) ?_)
 rintro w35 -
 refine zt 4 (zH rfl rfl rfl rfl z8 (.t2 .nil) ?_)
 refine Zc (qP (i:=1) rfl)<|zt 5 (zH rfl rfl rfl rfl z8 (.t2 .nil) ?_)
 refine zU kr<|zi<|qe<|vg<|zw (za 0 z4 rfl rfl (.t2 .nil))<|qg (qS rfl) zP QP (qX 0 rfl)<|vZ 1 rfl<|zx rfl (fun a1=> ?_) (fun a1=> ?_)
 have a0:x2=0:=Big.ZX.1 a1
 refine vg<|zE (qr vh rfl yc (.c z8 (.c z8 .n)) .n .n)<|zh 2 rfl rfl rfl rfl qk (.t4 .nil) (.s (.s .z))<|Zp 1 rfl<|zD<|Vm (qF false wz wz 0) (fun g _=>zbU g) ?_
 exact vD rfl (wz,wz) trivial (zy 2 qp rfl rfl (.t4 .nil)) (zj rfl) (by rw [if_pos a0];rfl) oN ((.e (j:=0) rfl (by rw [Big.WR a0,decide_eq_false (not_not_intro a0)]) .n))
 have a0:x2≠0:=fun e=>a1 (Big.ZX.2 e)
 refine kk8<|zw (za 1 z4 rfl rfl (.t2 .nil))<|zw (za 0 z4 rfl rfl (.t2 .nil))<|zm (q7 rfl rfl) zP (Jy qB qB zL) (vj 1 0 rfl rfl) ?_
 rintro ⟨a2,a3⟩ -
 refine zh 2 rfl rfl rfl rfl qk (.t4 .nil) (.s (.s .z))<|Zp 1 rfl ?_
 exact vD rfl (a2,a3) trivial (zy 2 qp rfl rfl (.t4 .nil)) (zj rfl) (by rw [if_neg a0]) oN ((.e (j:=0) rfl (by rw [decide_eq_true a0]) .n))
theorem zpQ {z1:Int} {z2:Int} (hz1: -9223372036854775808≤z1∧z1≤9223372036854775807) (hz2: -9223372036854775808≤z2∧z2≤9223372036854775807):CB 47 [.int .i64 z1,.int .i64 z2] [] (Y:=Wd×Wd) (fun y=> .tuple #[.agg #[y.1.b,y.1.l,y.2.b,y.2.l],.int .i64 (if z2=0 then 14 else 0)]) (fun y=>[qF (decide (z2≠0)) y.1 y.2 (yS z1 z2)]):=by
 refine zg Tryz.func47 rfl rfl (fun c=> ?_)
 have g1:=Big.zdE hz1.1 hz1.2
 have g2:=Big.zdE hz2.1 hz2.2
 refine vg<|zB (zo vh rfl) (fun b1=> ?_)
 refine jD 1 rfl<|qJ rfl<|zm (qS rfl) zP (jL qB) (.n) ?_
 rintro w33 -
 refine qJ rfl<|zm (qS rfl) zP (jL qB) (.n) ?_
 rintro w34 -
 refine zm (q7 rfl rfl) zP (zjN zL zL) (vj 1 0 rfl rfl) ?_
 rintro ⟨a0,a1⟩ -
 refine kS 2 rfl<|zh 0 rfl rfl rfl rfl qk (.t4 .nil) .z<|Zp 1 rfl ?_
 exact vD rfl (a0,a1) trivial (zy 0 qp rfl rfl (.t4 .nil)) (zj rfl) rfl oN (s0 rfl)
theorem zdZ (hz1: -9223372036854775808≤z1∧z1≤9223372036854775807) (hz2: -9223372036854775808≤z2∧z2≤9223372036854775807) (hy:z2≠0):jI yh 47 [yas yat (z1),yas yat (z2)] [] [] (Y:=(Wd)×(Wd)) (fun y=>True) (fun y=> .tuple #[.agg #[y.1.b,y.1.l,y.2.b,y.2.l],yas yat (0)]) (fun y=>[]) (fun y=>[qF true y.1 y.2 (yS z1 z2)]):=by
  have h:=zpQ hz1 hz2
  rw [if_neg hy,decide_eq_true hy] at h
  exact h
theorem zgm {k1:Bool} {u1:Wd} {v1:Wd} {q1:Rat} {k2:Bool} {u2:Wd} {v2:Wd} {q2:Rat} (hl:ym q1+ym q2+1≤1099511627776):CB 139 [.agg #[u1.b,u1.l,v1.b,v1.l],.agg #[u2.b,u2.l,v2.b,v2.l]] [qF k1 u1 v1 q1,qF k2 u2 v2 q2] (Y:=Wd×Wd) (fun y=> .tuple #[.agg #[y.1.b,y.1.l,y.2.b,y.2.l],.int .i64 (if q2=0 then 14 else 0)]) (fun y=>[qF (decide (q2≠0)) y.1 y.2 (q1 / q2)]):=by
 refine zg Tryz.func139 rfl rfl (fun c=> ?_)
 have a1:=yt q1
 have a2:=yu q1
 have a3:=yt q2
 have a4:=yu q2
 have b1:=yo q1.num q2.den
 have b2:=yo (q1.den:Int) q2.num
 refine vg<|zB (zX rfl rfl) (fun b1=> ?_)
 refine zB (zX rfl rfl) (fun b2=> ?_)
 refine zB (zo vh rfl) (fun b3=> ?_)
 refine jn 1 rfl<|vk (.c (i:=2) rfl (.c (i:=1) rfl (.c (i:=0) rfl .n)))<|rd2 4<|qy 0 rfl (za 0 qp rfl rfl (.t4 .nil))<|qy 2 rfl (za 1 qp rfl rfl (.t4 .nil))<|zt 1 (zp rfl (qS rfl) zP jv (qX 0 rfl) ?_)
 rintro ⟨w34,w45⟩ -
 refine zt 3 (zp rfl (qS rfl) zP jv (qX 2 rfl) ?_)
 rintro ⟨w36,w47⟩ -
 refine zt 4 (zH rfl rfl rfl rfl qk (.t4 .nil) ?_)
 refine Zc (qP (i:=1) rfl)<|zt 5 (zH rfl rfl rfl rfl qk (.t4 .nil) ?_)
 refine zU kr<|zi<|qe<|vg<|zE (zb yc rfl z8 rfl rfl)<|zw (za 0 z4 rfl rfl (.t2 .nil))<|Vf (jp 0 rfl) (fun _ _=> ?_)
 refine qg (qS rfl) zP QP (qX 0 rfl)<|vZ 1 rfl<|zx rfl (fun a5=> ?_) (fun a5=> ?_)
 have a0:q2=0:=Rat.num_eq_zero.1 (Big.ZX.1 a5)
 refine vg<|zE (qr vh rfl yc (.c z8 (.c z8 .n)) .n .n)<|zh 2 rfl rfl rfl rfl qk (.t4 .nil) (.s (.s .z))<|Zp 1 rfl<|zD<|Vm (qF false wz wz 0) (fun g _=>zbU g) ?_
 exact vD rfl (wz,wz) trivial (zy 2 qp rfl rfl (.t4 .nil)) (zj rfl) (by rw [if_pos a0];rfl) oN ((.e (j:=0) rfl (by rw [Big.zjB a0,decide_eq_false (not_not_intro a0)]) .n))
 have a6:q2.num≠0:=fun e=>a5 (Big.ZX.2 e)
 have a0:q2≠0:=fun e=>a6 (Rat.num_eq_zero.2 e)
 refine vY<|vk (.c (i:=2) rfl (.c (i:=0) rfl (.c (i:=0) rfl .n)))<|Vk 11<|zC 0 rfl (zb yc rfl z8 rfl rfl)<|qy 1 rfl (za 2 z4 rfl rfl (.t2 .nil))<|zC 2 rfl (zb yc rfl z8 rfl rfl)<|qy 3 rfl (za 1 z4 rfl rfl (.s2 (.t2 .nil)))<|zC 5 rfl (zb yc rfl z8 rfl rfl)<|qy 6 rfl (za 2 z4 rfl rfl (.s2 (.t2 .nil)))<|zC 7 rfl (zb yc rfl z8 rfl rfl)<|qy 8 rfl (za 1 z4 rfl rfl (.t2 .nil))<|ZG (jp 3 rfl) (fun _ _=> ?_)
 refine zt 4 (zp rfl (q7 rfl rfl) zP (ju zL zL) (vj 0 3 rfl rfl) ?_)
 rintro w38 -
 refine zt 9 (zp rfl (q7 rfl rfl) zP (ju zL zL) (vj 2 3 rfl rfl) ?_)
 rintro w39 -
 refine zt 10 (zp rfl (q7 rfl rfl) zP (Jy zL zL (by exact yV (Big.ZJ q1) a6)) (vj 1 0 rfl rfl) ?_)
 rintro ⟨a7,a8⟩ -
 refine zt 11 (zH rfl rfl rfl rfl qk (.t4 .nil) ?_)
 refine zC 12 rfl (zT rfl)<|zU kr<|zi<|vv ?_
 exact vD rfl (a7,a8) trivial (zy 0 qp rfl rfl (.t4 .nil)) (zj rfl) (by rw [if_neg a0]) oN ((.e (j:=0) rfl (by rw [decide_eq_true a0,Big.za6 a6]) .n))
theorem ZE {k2:Bool} {u2:Wd} {v2:Wd} {q2:Rat} (hl:ym q1+ym q2+1≤1099511627776) (hy:q2≠0):jI yh 139 [.agg #[u1.b,u1.l,v1.b,v1.l],.agg #[u2.b,u2.l,v2.b,v2.l]] [] [qF k1 u1 v1 (q1),qF k2 u2 v2 (q2)] (Y:=(Wd)×(Wd)) (fun y=>True) (fun y=> .tuple #[.agg #[y.1.b,y.1.l,y.2.b,y.2.l],yas yat (0)]) (fun y=>[]) (fun y=>[qF true y.1 y.2 (q1 / q2)]):=by
  have h:= @zgm k1 u1 v1 q1 k2 u2 v2 q2 hl
  rw [if_neg hy,decide_eq_true hy] at h
  exact h
theorem zcV {z:Int} (hz: -9223372036854775808≤z∧z≤9223372036854775807):CB 61 [.int .i64 z] [] (Y:=(Option Addr)×Nat) (fun y=> .agg #[.bool (decide (z<0)),.slice (y.1) ((ya ((z).natAbs)).length) (y.2)]) (fun y=>[zI (rI .u32) (y.1) (y.2) (ya ((z).natAbs))]):=by
 refine zg Tryz.func61 rfl rfl (fun c=> ?_)
 refine vg<|zB (zo jo rfl) (fun b1=> ?_)
 refine k40 1 rfl<|zm (qS rfl) zP (zaq qB) (.n) ?_
 rintro ⟨a0,a1⟩ -
 refine zh 0 rfl rfl rfl rfl z8 (.t2 .nil) .z<|Va ?_
 exact zq rfl (a0,a1) trivial (zy 0 z4 rfl rfl (.t2 .nil)) rfl oN (s0 rfl)
theorem Jz (hz: -9223372036854775808≤z∧z≤9223372036854775807):jI yh 61 [yas yat (z)] [] [] (Y:=(Wd)) (fun y=>True) (fun y=> .agg #[y.b,y.l]) (fun y=>[]) (fun y=>[zF y (z)]):=by
  exact Vn (zcV hz)
theorem WV {z:Int} (hz: -9223372036854775808≤z∧z≤9223372036854775807):CB 48 [.int .i64 z] [] (Y:=Wd×Wd) (fun y=> .agg #[y.1.b,y.1.l,y.2.b,y.2.l]) (fun y=>[qF true y.1 y.2 ((z:Int):Rat)]):=by
 refine zg Tryz.func48 rfl rfl (fun c=> ?_)
 refine vg<|zB (zo vh rfl) (fun b1=> ?_)
 refine k40 1 rfl<|zm (qS rfl) zP (Jz qB) (.n) ?_
 rintro a0 -
 refine zm (qS rfl) zP (Jz zL) (.n) ?_
 rintro a1 -
 refine zE (qr vh rfl yc (.c z8 (.c z8 .n)) (.c rfl (.c rfl .n)) (.c rfl rfl rfl (.t2 .nil) (.c rfl rfl rfl (.s2 (.t2 .nil)) .n)))<|zh 0 rfl rfl rfl rfl qk (.t4 .nil) .z<|Va<|Vm (qF true a0 a1 ((z:Int):Rat)) (QZ 1 0 rfl rfl (by exact ⟨(Rat.num_intCast z).symm,by rw [Rat.den_intCast];rfl,yJ (Big.zmx hz.1 hz.2) dd⟩)) ?_
 exact zq rfl (a0,a1) trivial (zy 0 qp rfl rfl (.t4 .nil)) rfl oN (s0 rfl)
theorem Qf {z:Int} (hz: -9223372036854775808≤z∧z≤9223372036854775807):CB 23 [.int .i64 z] [] (Y:=Wd×Wd) (fun y=> .agg #[y.1.b,y.1.l,y.2.b,y.2.l]) (fun y=>[qF true y.1 y.2 ((z:Int):Rat)]):=by
 refine zg Tryz.func23 rfl rfl (fun c=> ?_)
 refine vg<|zB (zo vh rfl) (fun b1=> ?_)
 refine k40 1 rfl<|zm (qS rfl) zP (WV qB) (.n) ?_
 rintro ⟨a0,a1⟩ -
 refine zh 0 rfl rfl rfl rfl qk (.t4 .nil) .z<|Va ?_
 exact zq rfl (a0,a1) trivial (zy 0 qp rfl rfl (.t4 .nil)) rfl oN (s0 rfl)
theorem zbz {s:Bool} {p1:Option Addr} {n1:Nat} {c1:Nat} {l1:List Int} {t:Bool} {p2:Option Addr} {n2:Nat} {c2:Nat} {l2:List Int} (hn1:l1.length=n1) (hn2:l2.length=n2) (hm1:n1≤1099511627776) (hm2:n2≤1099511627776):CA 64 [.agg #[.bool s,.slice p1 n1 c1,.bool t,.slice p2 n2 c2]] [zI (rI .u32) p1 c1 l1,zI (rI .u32) p2 c2 l2] (.bool (decide (Big.qok ((s,l1),(t,l2))))):=by
 refine zg Tryz.func64 rfl rfl (fun c=> ?_)
 refine zN 0 rfl (fun hL0=> ?_)
 refine jZ 0 rfl (fun a0=> ?_)
 refine zN 1 rfl (fun hL1=> ?_)
 refine jZ 1 rfl (fun a1=> ?_)
 have a2:yr l1:=fun g hg=>(zO.1 (a0 g hg)).1
 have a3:yr l2:=fun g hg=>(zO.1 (a1 g hg)).1
 have hb1:yi (yg s l1)≤n1:=by have:=yC (s:=s) a2;omega
 have hb2:yi (yg t l2)≤n2:=by have:=yC (s:=t) a3;omega
 refine vg<|zB (zX rfl rfl) (fun b1=> ?_)
 refine jn 1 rfl<|ji (X:=Unit) (fun x=>True) (fun x=>[(18,.bool (decide (¬(yA s l1∧yA t l2∧0<yg t l2)))),(1,Vp b1)]) (fun x=>[zK b1 32 [.bool s,.slice p1 n1 c1,.bool t,.slice p2 n2 c2]]) (fun x=>[zI (rI .u32) p1 c1 l1,zI (rI .u32) p2 c2 l2]) ?_ ?_
 refine zv<|zE (zb yc rfl z8 rfl rfl)<|zw (za 0 z4 rfl rfl (.t2 .nil))<|qg (qS rfl) zP (WT qB) (qX 0 rfl)<|zE (Jr rfl)<|q8 (qU rfl) (fun h2=> ?_) (fun h2=> ?_)
 refine qY 11 rfl ?_
 exact qL () Qn ((.e rfl (congrArg Value.bool (by simp_all)) (.c rfl .n))) (o0 rfl) ((.of [0,1] rfl))
 refine zE (zb yc rfl z8 rfl rfl)<|zw (za 0 z4 rfl rfl (.s2 (.t2 .nil)))<|qg (qS rfl) zP (WT qB) (qX 1 rfl)<|zE (Jr rfl)<|kS 1 rfl<|q8 (qU rfl) (fun h3=> ?_) (fun h3=> ?_)
 refine qY 5 rfl ?_
 exact qL () Qn ((.e rfl (congrArg Value.bool (by simp_all)) (.c rfl .n))) (o0 rfl) ((.of [0,1] rfl))
 refine zE (zb yc rfl z8 rfl rfl)<|zw (za 0 z4 rfl rfl (.s2 (.t2 .nil)))<|qg (qS rfl) zP (zdU qB zL) (qX 1 rfl)<|qY 2 rfl ?_
 exact qL () Qn ((.e rfl (congrArg Value.bool (by exact decide_eq_decide.2 (Big.zmB (yK.1 ‹_›) (yK.1 ‹_›)))) (.c rfl .n))) (o0 rfl) ((.of [0,1] rfl))
 rintro ⟨⟩ -
 refine zx rfl (fun hc=> ?_) (fun hc=> ?_)
 refine Zn 1 rfl<|zD ?_
 exact zq rfl () trivial (zj rfl) (congrArg Value.bool (decide_eq_false (fun h=>hc ⟨h.1,h.2.1,h.2.2.1⟩))) oN sN
 have hcc:=yK.1 hc
 have hgl:=Big.KQ (n:=yg s l1) (d:=yg t l2) om
 refine kk8<|zE (zb yc rfl z8 rfl rfl)<|zw (za 0 z4 rfl rfl (.t2 .nil))<|zE (zb yc rfl z8 rfl rfl)<|zw (za 0 z4 rfl rfl (.s2 (.t2 .nil)))<|zm (q7 rfl rfl) zP (zge qB qB zL zL) (vj 0 1 rfl rfl) ?_
 rintro ⟨p34,c35⟩ -
 refine zm (qS rfl) zP (zcV zL) (.n) ?_
 rintro ⟨p26,c27⟩ -
 dsimp only [aq,nq,cq]
 refine qg (.c rfl (.c rfl .n)) zP (JJ (by first|rfl|assumption|omega|(rw [ys];omega)|(decide +kernel)) (by first|rfl|assumption|omega|(rw [ys];omega)|(decide +kernel))) (vj 1 0) ?_
 refine Zp 2 rfl ?_
 exact zq rfl () trivial (zj rfl) (congrArg Value.bool (decide_eq_decide.2 (Big.zpy (x:=((s,l1),(t,l2))) (yK.1 hc)).symm)) oN sN
theorem zax :jI yh 64 [.agg #[u1.b,u1.l,v1.b,v1.l]] [] [qF true u1 v1 (q1)] (Y:=Unit) (fun y=>True) (fun y=> .bool true) (fun y=>[]) (fun y=>[]):=by
  exact zhN (fun x hx hk h1 h2=>by have h:= @zbz x.1.1 u1.p _ u1.c x.1.2 x.2.1 v1.p _ v1.c x.2.2 rfl rfl h1 h2;rw [decide_eq_true (hk rfl)] at h;exact h)
theorem zgn {s:Bool} {p1:Option Addr} {n1:Nat} {c1:Nat} {l1:List Int} {t:Bool} {p2:Option Addr} {n2:Nat} {c2:Nat} {l2:List Int} (hn1:l1.length=n1) (hn2:l2.length=n2) (hm1:n1≤1099511627776) (hm2:n2≤1099511627776):CB 63 [.agg #[.bool s,.slice p1 n1 c1,.bool t,.slice p2 n2 c2]] [zI (rI .u32) p1 c1 l1,zI (rI .u32) p2 c2 l2] (Y:=Wd×Wd) (fun y=> .agg #[y.1.b,y.1.l,y.2.b,y.2.l]) (fun y=>[qF true y.1 y.2 (yz ((s,l1),(t,l2)))]):=by
 refine zg Tryz.func63 rfl rfl (fun c=> ?_)
 refine zN 0 rfl (fun hL0=> ?_)
 refine jZ 0 rfl (fun a2=> ?_)
 refine zN 1 rfl (fun hL1=> ?_)
 refine jZ 1 rfl (fun a3=> ?_)
 have a0:yr l1:=fun g hg=>(zO.1 (a2 g hg)).1
 have a1:yr l2:=fun g hg=>(zO.1 (a3 g hg)).1
 have hb1:yi (yg s l1)≤n1:=by have:=yC (s:=s) a0;omega
 have hb2:yi (yg t l2)≤n2:=by have:=yC (s:=t) a1;omega
 refine vg<|zB (zX rfl rfl) (fun b1=> ?_)
 refine zB (zo vh rfl) (fun b2=> ?_)
 refine ZI<|vg<|zw (za 1 qp rfl rfl (.t4 .nil))<|qg (qS rfl) zP (zbz qB qB qB qB) (vj 0 1 rfl rfl)<|Vc<|zx rfl (fun hq=> ?_) (fun hq=> ?_)
 have hrp:=Big.zdQ (x:=((s,l1),(t,l2))) a0 a1 hq
 have hqp:=Big.VJ (x:=((s,l1),(t,l2))) hq
 have hl:ym (yz ((s,l1),(t,l2)))≤1099511627776:=by unfold ym;rw [hqp.1,hqp.2];dsimp only;omega
 refine vg<|zw (za 1 qp rfl rfl (.t4 .nil))<|zh 0 rfl rfl rfl rfl qk (.t4 .nil) .z<|Va<|zD<|Vm (qF true ⟨s,p1,n1,c1⟩ ⟨t,p2,n2,c2⟩ (yz ((s,l1),(t,l2)))) (fun g r=>zpA 0 1 rfl rfl hn1 hn2 hm1 hm2 hq g r) ?_
 exact zq rfl (⟨s,p1,n1,c1⟩,⟨t,p2,n2,c2⟩) trivial (zy 0 qp rfl rfl (.t4 .nil)) rfl oN (s0 rfl)
 have hz:=Big.zeB (x:=((s,l1),(t,l2))) hq
 refine kk8<|zm (qS rfl) zP (WV zL) (.n) ?_
 rintro ⟨a4,a5⟩ -
 refine zh 0 rfl rfl rfl rfl qk (.t4 .nil) .z<|Va ?_
 exact zq rfl (a4,a5) trivial (zy 0 qp rfl rfl (.t4 .nil)) rfl oN ((.e (j:=0) rfl (by rw [hz];rfl) .n))
theorem Zw :jI yh 63 [.agg #[u1.b,u1.l,v1.b,v1.l]] [] [qF k1 u1 v1 (q1)] (Y:=(Wd)×(Wd)) (fun y=>True) (fun y=> .agg #[y.1.b,y.1.l,y.2.b,y.2.l]) (fun y=>[]) (fun y=>[qF true y.1 y.2 (q1)]):=by
  exact zjD (fun x hx hk h1 h2 hl=>by subst hx;exact zgn rfl rfl h1 h2)
theorem Kd {w1:Wd} {w2:Wd} {x1:Int} {x2:Int} (hl1:yi x1≤1099511627776) (hl2:yi x2≤1099511627776) (hd:x2≠0):CB 126 [.agg #[w1.b,w1.l],.agg #[w2.b,w2.l]] [zF w1 x1,zF w2 x2] (Y:=Wd×Wd) (fun y=> .agg #[y.1.b,y.1.l,y.2.b,y.2.l]) (fun y=>[qF true y.1 y.2 (yS x1 x2)]):=by
 refine zg Tryz.func126 rfl rfl (fun c=> ?_)
 refine vg<|zB (zX rfl rfl) (fun b1=> ?_)
 refine zB (zX rfl rfl) (fun b2=> ?_)
 refine zB (zo vh rfl) (fun b3=> ?_)
 refine Vj<|zw (za 2 z4 rfl rfl (.t2 .nil))<|zw (za 1 z4 rfl rfl (.t2 .nil))<|zm (q7 rfl rfl) zP (zk6 zL zL) (vj 0 1 rfl rfl) ?_
 rintro w34 -
 refine zB (zo jo rfl) (fun b5=> ?_)
 refine zh 0 rfl rfl rfl rfl z8 (.t2 .nil) .z<|ZI<|vg<|zw (za 2 z4 rfl rfl (.t2 .nil))<|qg (qS rfl) zP (WU zL) (qX 2 rfl)<|vZ 1 rfl<|zx rfl (fun hneg=> ?_) (fun hneg=> ?_)
 have hs:x2<0:=by rcases Big.VD (x:=x2) with h|h|h <;> omega
 have hgp:=Big.ZD (n:=x1) (d:=x2) om
 have hgl:=Big.KQ (n:=x1) (d:=x2) om
 obtain ⟨a0,a1⟩:=Big.zpw (n:=x1) hs
 refine zv<|zw (za 0 z4 rfl rfl (.t2 .nil))<|zm (qS rfl) zP (zdT zL) (qX 0 rfl) ?_
 rintro w36 -
 dsimp only [aq,nq,cq]
 refine zh 0 rfl rfl rfl rfl z8 (.t2 .nil) .z ?_
 refine jq<|zi<|vg<|zw (za 3 z4 rfl rfl (.t2 .nil))<|zw (za 0 z4 rfl rfl (.t2 .nil))<|zm (.c rfl (.c rfl .n)) zP (VU (by first|rfl|assumption|omega|(rw [ys];omega)|(decide +kernel)) (by first|rfl|assumption|omega|(rw [ys];omega)|(decide +kernel)) (by first|rfl|assumption|omega|(rw [ys];omega)|(decide +kernel))) (vj 2 0 rfl rfl) ?_
 rintro ⟨a2,w48⟩ -
 refine kS 4 rfl<|zB (zo jo rfl) (fun b9=> ?_)
 refine zB (zo jo rfl) (fun b10=> ?_)
 refine zh 1 rfl rfl rfl rfl z8 (.t2 .nil) (.s .z) ?_
 refine zh 0 rfl rfl rfl rfl z8 (.t2 .nil) .z ?_
 refine jD 1 rfl<|zw (za 4 z4 rfl rfl (.t2 .nil))<|zw (za 2 z4 rfl rfl (.t2 .nil))<|zm (.c rfl (.c rfl .n)) zP (VU (by first|rfl|assumption|omega|(rw [ys];omega)|(decide +kernel)) (by first|rfl|assumption|omega|(rw [ys];omega)|(decide +kernel)) (by first|rfl|assumption|omega|(rw [ys];omega)|(decide +kernel))) (vj 5 2 rfl rfl) ?_
 rintro ⟨a3,a6⟩ -
 refine kS 4 rfl<|zB (zo jo rfl) (fun b13=> ?_)
 refine zB (zo jo rfl) (fun b14=> ?_)
 refine zh 1 rfl rfl rfl rfl z8 (.t2 .nil) (.s .z)<|zh 0 rfl rfl rfl rfl z8 (.t2 .nil) .z<|jD 1 rfl<|zw (za 3 z4 rfl rfl (.t2 .nil))<|zw (za 1 z4 rfl rfl (.t2 .nil))<|zE (qr vh rfl yc (.c z8 (.c z8 .n)) (.c rfl (.c rfl .n)) (.c rfl rfl rfl (.t2 .nil) (.c rfl rfl rfl (.s2 (.t2 .nil)) .n)))<|zh 5 rfl rfl rfl rfl qk (.t4 .nil) (.s (.s (.s (.s (.s .z)))))<|Va<|Vm (qF true a2 a3 (yS x1 x2)) (QZ 2 0 rfl rfl (by exact ⟨a0,a1,yJ (Big.Zr hd) om⟩)) ?_
 exact zq rfl (a2,a3) trivial (zy 5 qp rfl rfl (.t4 .nil)) rfl oN (s0 rfl)
 have hs:0<x2:=by rcases Big.VD (x:=x2) with h|h|h <;> omega
 have hgp:=Big.ZD (n:=x1) (d:=x2) om
 have hgl:=Big.KQ (n:=x1) (d:=x2) om
 obtain ⟨a0,a1⟩:=Big.zeD (n:=x1) hs
 refine kk8<|zw (za 3 z4 rfl rfl (.t2 .nil))<|zw (za 0 z4 rfl rfl (.t2 .nil))<|zm (q7 rfl rfl) zP (VU zL zL zL) (vj 1 0 rfl rfl) ?_
 rintro ⟨a4,a7⟩ -
 refine kS 4 rfl<|zB (zo jo rfl) (fun b17=> ?_)
 refine zB (zo jo rfl) (fun b18=> ?_)
 refine zh 1 rfl rfl rfl rfl z8 (.t2 .nil) (.s .z)<|zh 0 rfl rfl rfl rfl z8 (.t2 .nil) .z<|jD 1 rfl<|zw (za 4 z4 rfl rfl (.t2 .nil))<|zw (za 2 z4 rfl rfl (.t2 .nil))<|zm (q7 rfl rfl) zP (VU zL zL zL) (vj 4 2 rfl rfl) ?_
 rintro ⟨a5,a8⟩ -
 refine kS 4 rfl<|zB (zo jo rfl) (fun b21=> ?_)
 refine zB (zo jo rfl) (fun b22=> ?_)
 refine zh 1 rfl rfl rfl rfl z8 (.t2 .nil) (.s .z)<|zh 0 rfl rfl rfl rfl z8 (.t2 .nil) .z<|jD 1 rfl<|zw (za 3 z4 rfl rfl (.t2 .nil))<|zw (za 1 z4 rfl rfl (.t2 .nil))<|zE (qr vh rfl yc (.c z8 (.c z8 .n)) (.c rfl (.c rfl .n)) (.c rfl rfl rfl (.t2 .nil) (.c rfl rfl rfl (.s2 (.t2 .nil)) .n)))<|zh 5 rfl rfl rfl rfl qk (.t4 .nil) (.s (.s (.s (.s (.s .z)))))<|Va<|Vm (qF true a4 a5 (yS x1 x2)) (QZ 2 0 rfl rfl (by exact ⟨a0,a1,yJ (Big.Zr hd) om⟩)) ?_
 exact zq rfl (a4,a5) trivial (zy 5 qp rfl rfl (.t4 .nil)) rfl oN (s0 rfl)
theorem zgo {w1:Wd} {w2:Wd} {x1:Int} {x2:Int} (hl1:yi x1≤1099511627776) (hl2:yi x2≤1099511627776):CB 60 [.agg #[w1.b,w1.l],.agg #[w2.b,w2.l]] [zF w1 x1,zF w2 x2] (Y:=Wd×Wd) (fun y=> .tuple #[.agg #[y.1.b,y.1.l,y.2.b,y.2.l],.int .i64 (if x2=0 then 14 else 0)]) (fun y=>[qF (decide (x2≠0)) y.1 y.2 (yS x1 x2)]):=by
 refine zg Tryz.func60 rfl rfl (fun c=> ?_)
 refine vg<|zB (zX rfl rfl) (fun b1=> ?_)
 refine zB (zX rfl rfl) (fun b2=> ?_)
 refine zB (zo vh rfl) (fun b3=> ?_)
 refine jn 1 rfl<|vg<|zw (za 1 z4 rfl rfl (.t2 .nil))<|qg (qS rfl) zP (WU zL) (qX 1 rfl)<|vZ 1 rfl<|zx rfl (fun a1=> ?_) (fun a1=> ?_)
 have a0:x2=0:=Big.ZX.1 a1
 refine vg<|zE (qr vh rfl yc (.c z8 (.c z8 .n)) .n .n)<|zh 0 rfl rfl rfl rfl qk (.t4 .nil) .z<|Zp 1 rfl<|zD<|Vm (qF false wz wz 0) (fun g _=>zbU g) ?_
 exact vD rfl (wz,wz) trivial (zy 0 qp rfl rfl (.t4 .nil)) (zj rfl) (by rw [if_pos a0];rfl) oN ((.e (j:=0) rfl (by rw [Big.WR a0,decide_eq_false (not_not_intro a0)]) .n))
 have a0:x2≠0:=fun e=>a1 (Big.ZX.2 e)
 refine kk8<|zw (za 2 z4 rfl rfl (.t2 .nil))<|zw (za 1 z4 rfl rfl (.t2 .nil))<|zm (q7 rfl rfl) zP (Kd qB qB zL) (vj 0 1 rfl rfl) ?_
 rintro ⟨a2,a3⟩ -
 refine zh 0 rfl rfl rfl rfl qk (.t4 .nil) .z<|Zp 1 rfl ?_
 exact vD rfl (a2,a3) trivial (zy 0 qp rfl rfl (.t4 .nil)) (zj rfl) (by rw [if_neg a0]) oN ((.e (j:=0) rfl (by rw [decide_eq_true a0]) .n))
theorem zm1 {z1:Int} {z2:Int} (hz1: -9223372036854775808≤z1∧z1≤9223372036854775807) (hz2: -9223372036854775808≤z2∧z2≤9223372036854775807):CB 11 [.int .i64 z1,.int .i64 z2] [] (Y:=Wd×Wd) (fun y=> .tuple #[.agg #[y.1.b,y.1.l,y.2.b,y.2.l],.int .i64 (if z2=0 then 14 else 0)]) (fun y=>[qF (decide (z2≠0)) y.1 y.2 (yS z1 z2)]):=by
 refine zg Tryz.func11 rfl rfl (fun c=> ?_)
 have g1:=Big.zdE hz1.1 hz1.2
 have g2:=Big.zdE hz2.1 hz2.2
 refine vg<|zB (zo vh rfl) (fun b1=> ?_)
 refine jD 1 rfl<|qJ rfl<|zm (qS rfl) zP (Jz qB) (.n) ?_
 rintro w33 -
 refine qJ rfl<|zm (qS rfl) zP (Jz qB) (.n) ?_
 rintro w34 -
 refine zm (q7 rfl rfl) zP (zgo zL zL) (vj 1 0 rfl rfl) ?_
 rintro ⟨a0,a1⟩ -
 refine kS 2 rfl<|zh 0 rfl rfl rfl rfl qk (.t4 .nil) .z<|Zp 1 rfl ?_
 exact vD rfl (a0,a1) trivial (zy 0 qp rfl rfl (.t4 .nil)) (zj rfl) rfl oN (s0 rfl)
theorem zcW (hz1: -9223372036854775808≤z1∧z1≤9223372036854775807) (hz2: -9223372036854775808≤z2∧z2≤9223372036854775807) (hy:z2≠0):jI yh 11 [yas yat (z1),yas yat (z2)] [] [] (Y:=(Wd)×(Wd)) (fun y=>True) (fun y=> .tuple #[.agg #[y.1.b,y.1.l,y.2.b,y.2.l],yas yat (0)]) (fun y=>[]) (fun y=>[qF true y.1 y.2 (yS z1 z2)]):=by
  have h:=zm1 hz1 hz2
  rw [if_neg hy,decide_eq_true hy] at h
  exact h
theorem Ke {k1:Bool} {u1:Wd} {v1:Wd} {q1:Rat} (hl:ym q1≤1099511627776):CA 12 [.agg #[u1.b,u1.l,v1.b,v1.l]] [qF k1 u1 v1 q1] (.int .i64 (Big.Zv q1)):=by
 refine zg Tryz.func12 rfl rfl (fun c=> ?_)
 have a1:=yt q1
 have a2:=yu q1
 refine vg<|zB (zX rfl rfl) (fun b1=> ?_)
 refine jD 1 rfl<|zw (za 0 qp rfl rfl (.t4 .nil))<|zm (qS rfl) zP Zw (qX 0 rfl) ?_
 rintro ⟨w33,w44⟩ -
 refine zE (W8 yc rfl z4 rfl (.t2 .nil))<|Vf (jp 0 rfl) (fun _ _=> ?_)
 refine qg (qS rfl) zP (WU zL) (qX 0 rfl)<|Zp 1 rfl ?_
 exact zq rfl () trivial (zj rfl) rfl oN sN
theorem zk8 {k1:Bool} {u1:Wd} {v1:Wd} {q1:Rat} (hl:ym q1≤1099511627776):CB 25 [.agg #[u1.b,u1.l,v1.b,v1.l]] [qF k1 u1 v1 q1] (Y:=Wd×Wd) (fun y=> .agg #[y.1.b,y.1.l,y.2.b,y.2.l]) (fun y=>[qF true y.1 y.2 (- q1)]):=by
 refine zg Tryz.func25 rfl rfl (fun c=> ?_)
 have a1:=yt q1
 have a2:=yu q1
 refine vg<|zB (zX rfl rfl) (fun b1=> ?_)
 refine zB (zo vh rfl) (fun b2=> ?_)
 refine Vj<|zw (za 1 qp rfl rfl (.t4 .nil))<|zm (qS rfl) zP Zw (qX 0 rfl) ?_
 rintro ⟨w33,a0⟩ -
 refine zB (zo vh rfl) (fun b5=> ?_)
 refine zh 0 rfl rfl rfl rfl qk (.t4 .nil) .z<|ZI<|vk (.c (i:=1) rfl (.c (i:=0) rfl .n))<|Vk 6<|zC 0 rfl (zb yc rfl z8 rfl rfl)<|qy 1 rfl (za 1 z4 rfl rfl (.t2 .nil))<|zC 3 rfl (zb yc rfl z8 rfl rfl)<|qy 4 rfl (za 1 z4 rfl rfl (.s2 (.t2 .nil)))<|ZG (jp 0 rfl) (fun _ _=> ?_)
 refine zt 2 (zp rfl (qS rfl) zP (zdT zL) (qX 0 rfl) ?_)
 rintro a3 -
 refine zC 5 rfl (qr vh rfl yc (.c z8 (.c z8 .n)) (.c rfl (.c rfl .n)) (.c rfl rfl rfl (.t2 .nil) (.c rfl rfl rfl (.s2 (.t2 .nil)) .n)))<|zt 6 (zH rfl rfl rfl rfl qk (.t4 .nil) ?_)
 refine zU kr<|zi<|vv<|Vm (qF true a3 a0 (- q1)) (QZ 0 2 rfl rfl (by exact ⟨(Rat.neg_num q1).symm,by rw [Rat.neg_den],by rw [Big.KN];exact hl⟩)) ?_
 exact zq rfl (a3,a0) trivial (zy 0 qp rfl rfl (.t4 .nil)) rfl oN (s0 rfl)
theorem Wl {k1:Bool} {u1:Wd} {v1:Wd} {q1:Rat} {k2:Bool} {u2:Wd} {v2:Wd} {q2:Rat} (hl:ym q1+ym q2+1≤1099511627776):CB 69 [.agg #[u1.b,u1.l,v1.b,v1.l],.agg #[u2.b,u2.l,v2.b,v2.l]] [qF k1 u1 v1 q1,qF k2 u2 v2 q2] (Y:=Wd×Wd) (fun y=> .agg #[y.1.b,y.1.l,y.2.b,y.2.l]) (fun y=>[qF true y.1 y.2 (q1+q2)]):=by
 refine zg Tryz.func69 rfl rfl (fun c=> ?_)
 have a1:=yt q1
 have a2:=yu q1
 have a3:=yt q2
 have a4:=yu q2
 have b1:=yo q1.num q2.den
 have b2:=yo q2.num q1.den
 have b3:=Big.QJ (q1.num*q2.den) (q2.num*q1.den)
 have b4:=yo (q1.den:Int) q2.den
 have b5:=yo q1.num q2.num
 refine vg<|zB (zX rfl rfl) (fun b1=> ?_)
 refine zB (zX rfl rfl) (fun b2=> ?_)
 refine zB (zo vh rfl) (fun b3=> ?_)
 refine Vj<|zw (za 2 qp rfl rfl (.t4 .nil))<|zm (qS rfl) zP Zw (qX 0 rfl) ?_
 rintro ⟨w34,w45⟩ -
 refine zB (zo vh rfl) (fun b6=> ?_)
 refine zh 0 rfl rfl rfl rfl qk (.t4 .nil) .z<|Vj<|zw (za 2 qp rfl rfl (.t4 .nil))<|zm (qS rfl) zP Zw (qX 2 rfl) ?_
 rintro ⟨w37,w48⟩ -
 refine zB (zo vh rfl) (fun b9=> ?_)
 refine zh 0 rfl rfl rfl rfl qk (.t4 .nil) .z<|ZI<|vk (.c (i:=2) rfl (.c (i:=0) rfl (.c (i:=0) rfl .n)))<|Vk 17<|zC 0 rfl (zb yc rfl z8 rfl rfl)<|qy 1 rfl (za 2 z4 rfl rfl (.t2 .nil))<|zC 2 rfl (zb yc rfl z8 rfl rfl)<|qy 3 rfl (za 1 z4 rfl rfl (.s2 (.t2 .nil)))<|zC 5 rfl (zb yc rfl z8 rfl rfl)<|qy 6 rfl (za 1 z4 rfl rfl (.t2 .nil))<|zC 7 rfl (zb yc rfl z8 rfl rfl)<|qy 8 rfl (za 2 z4 rfl rfl (.s2 (.t2 .nil)))<|zC 11 rfl (zb yc rfl z8 rfl rfl)<|qy 12 rfl (za 2 z4 rfl rfl (.s2 (.t2 .nil)))<|zC 13 rfl (zb yc rfl z8 rfl rfl)<|qy 14 rfl (za 1 z4 rfl rfl (.s2 (.t2 .nil)))<|ZG (jp 1 rfl) (fun _ _=> ?_)
 refine ZG (jp 2 rfl) (fun _ _=> ?_)
 refine zt 4 (zp rfl (q7 rfl rfl) zP (Vs zL zL) (vj 2 1 rfl rfl) ?_)
 rintro a6 -
 refine zt 9 (zp rfl (q7 rfl rfl) zP (Vs zL zL) (vj 1 4 rfl rfl) ?_)
 rintro a7 -
 refine zt 10 (zp rfl (q7 rfl rfl) zP (zk3 zL zL) (vj 1 0 rfl rfl) ?_)
 rintro a8 -
 refine zt 15 (zp rfl (q7 rfl rfl) zP (Vs zL zL) (vj 6 4 rfl rfl) ?_)
 rintro a9 -
 refine zt 16 (zp rfl (q7 rfl rfl) zP (Kd zL zL (by exact yV (Big.ZJ q1) (Big.ZJ q2))) (vj 1 0 rfl rfl) ?_)
 rintro ⟨a0,a5⟩ -
 refine zt 17 (zH rfl rfl rfl rfl qk (.t4 .nil) ?_)
 refine zU kr<|zi<|vv ?_
 exact zq rfl (a0,a5) trivial (zy 0 qp rfl rfl (.t4 .nil)) rfl oN ((.e (j:=0) rfl (by rw [Big.za4]) .n))
theorem jH {k1:Bool} {u1:Wd} {v1:Wd} {q1:Rat} {k2:Bool} {u2:Wd} {v2:Wd} {q2:Rat} (hl:ym q1+ym q2+1≤1099511627776):CB 42 [.agg #[u1.b,u1.l,v1.b,v1.l],.agg #[u2.b,u2.l,v2.b,v2.l]] [qF k1 u1 v1 q1,qF k2 u2 v2 q2] (Y:=Wd×Wd) (fun y=> .agg #[y.1.b,y.1.l,y.2.b,y.2.l]) (fun y=>[qF true y.1 y.2 (q1*q2)]):=by
 refine zg Tryz.func42 rfl rfl (fun c=> ?_)
 have a1:=yt q1
 have a2:=yu q1
 have a3:=yt q2
 have a4:=yu q2
 have b1:=yo q1.num q2.den
 have b2:=yo q2.num q1.den
 have b3:=Big.QJ (q1.num*q2.den) (q2.num*q1.den)
 have b4:=yo (q1.den:Int) q2.den
 have b5:=yo q1.num q2.num
 refine vg<|zB (zX rfl rfl) (fun b1=> ?_)
 refine zB (zX rfl rfl) (fun b2=> ?_)
 refine zB (zo vh rfl) (fun b3=> ?_)
 refine Vj<|zw (za 2 qp rfl rfl (.t4 .nil))<|zm (qS rfl) zP Zw (qX 0 rfl) ?_
 rintro ⟨w34,w45⟩ -
 refine zB (zo vh rfl) (fun b6=> ?_)
 refine zh 0 rfl rfl rfl rfl qk (.t4 .nil) .z<|Vj<|zw (za 2 qp rfl rfl (.t4 .nil))<|zm (qS rfl) zP Zw (qX 2 rfl) ?_
 rintro ⟨w37,w48⟩ -
 refine zB (zo vh rfl) (fun b9=> ?_)
 refine zh 0 rfl rfl rfl rfl qk (.t4 .nil) .z<|ZI<|vk (.c (i:=2) rfl (.c (i:=0) rfl (.c (i:=0) rfl .n)))<|Vk 11<|zC 0 rfl (zb yc rfl z8 rfl rfl)<|qy 1 rfl (za 2 z4 rfl rfl (.t2 .nil))<|zC 2 rfl (zb yc rfl z8 rfl rfl)<|qy 3 rfl (za 1 z4 rfl rfl (.t2 .nil))<|zC 5 rfl (zb yc rfl z8 rfl rfl)<|qy 6 rfl (za 2 z4 rfl rfl (.s2 (.t2 .nil)))<|zC 7 rfl (zb yc rfl z8 rfl rfl)<|qy 8 rfl (za 1 z4 rfl rfl (.s2 (.t2 .nil)))<|ZG (jp 1 rfl) (fun _ _=> ?_)
 refine ZG (jp 2 rfl) (fun _ _=> ?_)
 refine zt 4 (zp rfl (q7 rfl rfl) zP (Vs zL zL) (vj 2 0 rfl rfl) ?_)
 rintro a6 -
 refine zt 9 (zp rfl (q7 rfl rfl) zP (Vs zL zL) (vj 4 2 rfl rfl) ?_)
 rintro a7 -
 refine zt 10 (zp rfl (q7 rfl rfl) zP (Kd zL zL (by exact yV (Big.ZJ q1) (Big.ZJ q2))) (vj 1 0 rfl rfl) ?_)
 rintro ⟨a0,a5⟩ -
 refine zt 11 (zH rfl rfl rfl rfl qk (.t4 .nil) ?_)
 refine zU kr<|zi<|vv ?_
 exact zq rfl (a0,a5) trivial (zy 0 qp rfl rfl (.t4 .nil)) rfl oN ((.e (j:=0) rfl (by rw [Big.za5]) .n))
theorem VZ {k1:Bool} {u1:Wd} {v1:Wd} {q1:Rat} {k2:Bool} {u2:Wd} {v2:Wd} {q2:Rat} (hl:ym q1+ym q2+1≤1099511627776):CB 17 [.agg #[u1.b,u1.l,v1.b,v1.l],.agg #[u2.b,u2.l,v2.b,v2.l]] [qF k1 u1 v1 q1,qF k2 u2 v2 q2] (Y:=Wd×Wd) (fun y=> .agg #[y.1.b,y.1.l,y.2.b,y.2.l]) (fun y=>[qF true y.1 y.2 (q1 - q2)]):=by
 refine zg Tryz.func17 rfl rfl (fun c=> ?_)
 have a1:=yt q1
 have a2:=yu q1
 have a3:=yt q2
 have a4:=yu q2
 refine vg<|zB (zX rfl rfl) (fun b1=> ?_)
 refine zB (zX rfl rfl) (fun b2=> ?_)
 refine zB (zo vh rfl) (fun b3=> ?_)
 refine ZI<|Vk 4<|qy 0 rfl (za 2 qp rfl rfl (.t4 .nil))<|qy 1 rfl (za 1 qp rfl rfl (.t4 .nil))<|zt 2 (zp rfl (qS rfl) zP (zk8 zL) (qX 1 rfl) ?_)
 rintro ⟨w34,w45⟩ -
 dsimp only [aq,nq,cq]
 refine zt 3 (zp rfl (.c rfl (.c rfl .n)) zP (Wl (by first|rfl|assumption|omega|(rw [ys];omega)|(decide +kernel)|(rw [Big.KN];omega))) (vj 1 0 rfl rfl) ?_)
 rintro ⟨a0,a5⟩ -
 refine zt 4 (zH rfl rfl rfl rfl qk (.t4 .nil) ?_)
 refine zU kr<|zi<|vv ?_
 exact zq rfl (a0,a5) trivial (zy 0 qp rfl rfl (.t4 .nil)) rfl oN ((.e (j:=0) rfl (by rw [yam]) .n))
theorem JK {k1:Bool} {u1:Wd} {v1:Wd} {q1:Rat} {k2:Bool} {u2:Wd} {v2:Wd} {q2:Rat} (hl:ym q1+ym q2+1≤1099511627776):CA 14 [.agg #[u1.b,u1.l,v1.b,v1.l],.agg #[u2.b,u2.l,v2.b,v2.l]] [qF k1 u1 v1 q1,qF k2 u2 v2 q2] (.int .i64 (Big.Zv (q1 - q2))):=by
 refine zg Tryz.func14 rfl rfl (fun c=> ?_)
 have hsb:=Big.KO q1 q2
 refine vg<|zB (zX rfl rfl) (fun b1=> ?_)
 refine zB (zX rfl rfl) (fun b2=> ?_)
 refine jD 1 rfl<|zw (za 1 qp rfl rfl (.t4 .nil))<|zw (za 0 qp rfl rfl (.t4 .nil))<|zm (q7 rfl rfl) zP (VZ qB) (vj 0 1 rfl rfl) ?_
 rintro ⟨w33,w44⟩ -
 refine qg (qS rfl) zP (Ke zL) (qX 0 rfl)<|Zp 1 rfl ?_
 exact zq rfl () trivial (zj rfl) rfl oN sN
theorem zay {k1:Bool} {u1:Wd} {v1:Wd} {q1:Rat} {k2:Bool} {u2:Wd} {v2:Wd} {q2:Rat} (hl:ym q1+ym q2+1≤1099511627776):CB 43 [.agg #[u1.b,u1.l,v1.b,v1.l],.agg #[u2.b,u2.l,v2.b,v2.l]] [qF k1 u1 v1 q1,qF k2 u2 v2 q2] (Y:=Wd×Wd) (fun y=> .tuple #[.agg #[y.1.b,y.1.l,y.2.b,y.2.l],.int .i64 (if q2=0 then 14 else 0)]) (fun y=>[qF (decide (q2≠0)) y.1 y.2 (q1 / q2)]):=by
 refine zg Tryz.func43 rfl rfl (fun c=> ?_)
 have a1:=yt q1
 have a2:=yu q1
 have a3:=yt q2
 have a4:=yu q2
 have b1:=yo q1.num q2.den
 have b2:=yo (q1.den:Int) q2.num
 refine vg<|zB (zX rfl rfl) (fun b1=> ?_)
 refine zB (zX rfl rfl) (fun b2=> ?_)
 refine zB (zo vh rfl) (fun b3=> ?_)
 refine jD 1 rfl<|zw (za 2 qp rfl rfl (.t4 .nil))<|zm (qS rfl) zP Zw (qX 0 rfl) ?_
 rintro ⟨w34,w45⟩ -
 refine zB (zo vh rfl) (fun b6=> ?_)
 refine zh 0 rfl rfl rfl rfl qk (.t4 .nil) .z<|Vj<|zw (za 2 qp rfl rfl (.t4 .nil))<|zm (qS rfl) zP Zw (qX 2 rfl) ?_
 rintro ⟨w37,w48⟩ -
 refine zB (zo vh rfl) (fun b9=> ?_)
 refine zh 0 rfl rfl rfl rfl qk (.t4 .nil) .z<|ZI<|vk (.c (i:=2) rfl (.c (i:=0) rfl (.c (i:=0) rfl .n)))<|Vk 13<|zC 0 rfl (zb yc rfl z8 rfl rfl)<|qy 1 rfl (za 2 z4 rfl rfl (.t2 .nil))<|zC 2 rfl (zb yc rfl z8 rfl rfl)<|qy 3 rfl (za 1 z4 rfl rfl (.s2 (.t2 .nil)))<|zC 5 rfl (zb yc rfl z8 rfl rfl)<|qy 6 rfl (za 2 z4 rfl rfl (.s2 (.t2 .nil)))<|zC 7 rfl (zb yc rfl z8 rfl rfl)<|qy 8 rfl (za 1 z4 rfl rfl (.t2 .nil))<|ZG (jp 1 rfl) (fun _ _=> ?_)
 refine ZG (jp 2 rfl) (fun _ _=> ?_)
 refine zt 4 (zp rfl (q7 rfl rfl) zP (Vs zL zL) (vj 2 1 rfl rfl) ?_)
 rintro a7 -
 refine zt 9 (zp rfl (q7 rfl rfl) zP (Vs zL zL) (vj 4 1 rfl rfl) ?_)
 rintro a8 -
 refine zt 10 (zp rfl (q7 rfl rfl) zP (zgo zL zL) (vj 1 0 rfl rfl) ?_)
 rintro ⟨a5,a6⟩ -
 refine zC 11 rfl (qD rfl rfl)<|zC 12 rfl (qD rfl rfl)<|zt 13 (zH rfl rfl rfl rfl qk (.t4 .nil) ?_)
 refine zC 14 rfl (zT rfl)<|zU kr<|zi<|vv ?_
 have a0:((q1.den:Int)*q2.num=0)=(q2=0):=propext (Big.zf8 q1 q2)
 exact vD rfl (a5,a6) trivial (zy 0 qp rfl rfl (.t4 .nil)) (zj rfl) (by simp only [a0]) oN ((.e (j:=0) rfl (by rw [Big.zpz];simp only [ne_eq,a0]) .n))
theorem zh3 {u1:Wd} {v1:Wd} {q1:Rat} {u2:Wd} {v2:Wd} {q2:Rat} (hl:ym q1+ym q2+1≤1099511627776):CA 13 [.agg #[u1.b,u1.l,v1.b,v1.l],.agg #[u2.b,u2.l,v2.b,v2.l]] [qF true u1 v1 q1,qF true u2 v2 q2] (.bool (decide (q1=q2))):=by
 refine zg Tryz.func13 rfl rfl (fun c=> ?_)
 refine vg<|zB (zX rfl rfl) (fun b1=> ?_)
 refine zB (zX rfl rfl) (fun b2=> ?_)
 refine vZ 1 rfl<|ji (X:=Unit) (fun x=>True) (fun x=>[(4,.bool (decide (Big.Zv (q1 - q2)=0)))]) (fun x=>[]) (fun x=>[]) ?_ ?_
 refine zv<|zw (za 1 qp rfl rfl (.t4 .nil))<|qg (qS rfl) zP zax (qX 0 rfl)<|qJ rfl<|zw (za 0 qp rfl rfl (.t4 .nil))<|qg (qS rfl) zP zax (qX 1 rfl)<|kS 2 rfl<|zw (za 1 qp rfl rfl (.t4 .nil))<|zw (za 0 qp rfl rfl (.t4 .nil))<|qg (q7 rfl rfl) zP (JK qB) (vj 0 1 rfl rfl)<|qY 3 rfl ?_
 exact qL () Qn ((.c rfl .n)) oN sN
 rintro ⟨⟩ -
 refine vv ?_
 exact zq rfl () trivial (zj rfl) (congrArg Value.bool (decide_eq_decide.2 Big.zeE.symm)) oN sN
theorem WC {u1:Wd} {v1:Wd} {q1:Rat} {u2:Wd} {v2:Wd} {q2:Rat} (hl:ym q1+ym q2+1≤1099511627776):CA 22 [.agg #[u1.b,u1.l,v1.b,v1.l],.agg #[u2.b,u2.l,v2.b,v2.l]] [qF true u1 v1 q1,qF true u2 v2 q2] (.bool (decide (q1=q2))):=by
 refine zg Tryz.func22 rfl rfl (fun c=> ?_)
 refine vg<|zB (zX rfl rfl) (fun b1=> ?_)
 refine zB (zX rfl rfl) (fun b2=> ?_)
 refine jD 1 rfl<|zw (za 1 qp rfl rfl (.t4 .nil))<|zw (za 0 qp rfl rfl (.t4 .nil))<|qg (q7 rfl rfl) zP (zh3 qB) (vj 0 1 rfl rfl)<|Zp 1 rfl ?_
 exact zq rfl () trivial (zj rfl) rfl oN sN
end Sp
namespace Td
open Mx
def dt (a:Nat→Rat):Rat:=a 0*a 0+a 1*a 1+a 2*a 2
def pe (a:Nat→Rat) (i j:Nat):Rat:=(if i=j then 1 else 0) - a i*a j / dt a
theorem s3 (f:Nat→Rat):sm 3 f=f 0+f 1+f 2:=by
  rw [J8,J8,J8];show (0:Rat)+f 0+f 1+f 2=_;grind
section
variable {a : Nat → Rat}
theorem lt3 {i:Nat} (h:i<3):i=0∨i=1∨i=2:=Oo
theorem zjO (h:dt a≠0) (v:Nat→Rat):dt a*sm 3 (fun i=>v i*sm 3 (fun j=>pe a i j*v j))=(v 0*a 1 - v 1*a 0)*(v 0*a 1 - v 1*a 0)+(v 0*a 2 - v 2*a 0)*(v 0*a 2 - v 2*a 0)+(v 1*a 2 - v 2*a 1)*(v 1*a 2 - v 2*a 1):=by
  have e:dt a*(dt a)⁻¹ =1:=Rat.mul_inv_cancel _ h
  rw [s3,s3,s3,s3]
  unfold pe
  simp only [Rat.div_def,if_pos,if_neg (show ¬(0:Nat)=1 by decide),if_neg (show ¬(0:Nat)=2 by decide),if_neg (show ¬(1:Nat)=0 by decide),if_neg (show ¬(1:Nat)=2 by decide),if_neg (show ¬(2:Nat)=0 by decide),if_neg (show ¬(2:Nat)=1 by decide)]
  have key:dt a*(v 0*v 0+v 1*v 1+v 2*v 2) - (v 0*a 0+v 1*a 1+v 2*a 2)*(v 0*a 0+v 1*a 1+v 2*a 2)*(dt a*(dt a)⁻¹)=(v 0*a 1 - v 1*a 0)*(v 0*a 1 - v 1*a 0)+(v 0*a 2 - v 2*a 0)*(v 0*a 2 - v 2*a 0)+(v 1*a 2 - v 2*a 1)*(v 1*a 2 - v 2*a 1):=by
    rw [e];unfold dt;grind
  rw [← key]
  grind
theorem zh4 {z:Rat} (h:a 2=z) (hz:z≠0):0<dt a:=by
  have sq:∀x:Rat,0≤x*x:=fun x=>by
    rcases Rat.le_total (a:=0) (b:=x) with k|k
    · exact yaf k k
    · have:=yaf (show 0≤ -x by grind) (show 0≤ -x by grind);grind
  have h1:=sq (a 0);have h2:=sq (a 1);have h3:=sq (a 2)
  have h4:a 2*a 2≠0:=fun k=>by
    rcases yP.1 k with q|q <;> exact hz (h ▸ q)
  unfold dt
  grind
end
theorem sqn (x:Rat):0≤x*x:=by
  rcases Rat.le_total (a:=0) (b:=x) with k|k
  · exact yaf k k
  · have:=yaf (show 0≤ -x by grind) (show 0≤ -x by grind);grind
theorem sq0 {x:Rat} (h:x*x=0):x=0:=by rcases yP.1 h with k|k <;> exact k
structure Two (a b:Nat→Rat):Prop where
  z:a 2=b 2
  nz:a 2≠0
  ne:a 0≠b 0
def nE (a b:Nat→Rat) (i j:Nat):Rat:=pe a i j+pe b i j
theorem null {a b:Nat→Rat} (h:Two a b) {v:Nat→Rat} (hv:∀i,i<3→sm 3 (fun j=>nE a b i j*v j)=0):∀i,i<3→v i=0:=by
  have ha:=zh4 (a:=a) rfl h.nz
  have hb:=zh4 (a:=b) h.z.symm h.nz
  have q1:=zjO (a:=a) Og v
  have q2:=zjO (a:=b) Og v
  have hs:sm 3 (fun i=>v i*sm 3 (fun j=>pe a i j*v j))+sm 3 (fun i=>v i*sm 3 (fun j=>pe b i j*v j))=0:=by
    rw [← za7]
    refine J9 fun i hi=> ?_
    have:=hv i hi
    rw [vo (g:=fun j=>pe a i j*v j+pe b i j*v j) fun j _=>by unfold nE;grind,za7] at this
    rw [show v i*sm 3 (fun j=>pe a i j*v j)+v i*sm 3 (fun j=>pe b i j*v j)=v i*(sm 3 (fun j=>pe a i j*v j)+sm 3 (fun j=>pe b i j*v j)) by grind,this];grind
  generalize sm 3 (fun i=>v i*sm 3 (fun j=>pe a i j*v j))=X at q1 hs
  generalize sm 3 (fun i=>v i*sm 3 (fun j=>pe b i j*v j))=Y at q2 hs
  have p1:=sqn (v 0*a 1 - v 1*a 0);have p2:=sqn (v 0*a 2 - v 2*a 0);have p3:=sqn (v 1*a 2 - v 2*a 1)
  have r1:=sqn (v 0*b 1 - v 1*b 0);have r2:=sqn (v 0*b 2 - v 2*b 0);have r3:=sqn (v 1*b 2 - v 2*b 1)
  have nn:∀{d x:Rat},0<d→0≤d*x→0≤x:=fun {d x} hd hx=>by
    rcases Rat.le_total (a:=0) (b:=x) with k|k
    · exact k
    · have := yaf (show 0 ≤ d by grind) (show 0 ≤ -x by grind)
      have e:d*x=0:=Og
      rcases yP.1 e with z|z <;> grind
  have hX:=nn ha (by rw [q1];grind)
  have hY:=nn hb (by rw [q2];grind)
  have x0:X=0:=Og
  have y0:Y=0:=Og
  rw [x0] at q1
  rw [y0] at q2
  have e1:v 0*a 2 - v 2*a 0=0:=sq0 Og
  have e2:v 1*a 2 - v 2*a 1=0:=sq0 Og
  have e3:v 0*b 2 - v 2*b 0=0:=sq0 Og
  have hz:=h.z
  have v2:v 2=0:=by
    have:v 2*(a 0 - b 0)=0:=by rw [← hz] at e3;grind
    rcases yP.1 this with k|k
    · exact k
    · exact absurd Og h.ne
  have v0:v 0=0:=by
    have:v 0*a 2=0:=Og
    rcases yP.1 this with k|k
    · exact k
    · exact absurd k h.nz
  have v1:v 1=0:=by
    have:v 1*a 2=0:=Og
    rcases yP.1 this with k|k
    · exact k
    · exact absurd k h.nz
  intro i hi
  rcases lt3 hi with q|q|q <;> subst q <;> assumption
section
variable {M : Nat → Nat → Rat} {m0 m : Mt} {ps : List Nat} {n : Nat}
def Be (n:Nat) (M:Nat→Nat→Rat) (m0:Mt):Prop:=∀i c,i<n→e m0 i c=if c<n then M i c else if c<n+n then (if c=n+i then 1 else 0) else 0
theorem free (h:Rd (n+n) n m0 m n ps) (hl:ps.length<n):∃c,c<n∧∀t,t<ps.length→ps.getD t 0≠c:=by
  apply yU
  intro hne
  have all:∀c,c<n→∃t,t<ps.length∧ps.getD t 0=c:=fun c hc=>yU fun k=>hne ⟨c,hc,fun t ht e=>k ⟨t,ht,e⟩⟩
  -- counting: a map from fewer places cannot reach all
  have key:∀(k N:Nat) (f:Nat→Nat),k<N→(∀c,c<N→∃t,t<k∧f t=c)→False:=by
    intro k
    induction k with
    |zero=>intro N f hk hf;obtain ⟨t,ht,_⟩:=hf 0 hk;omega
    |succ k ih=>
      intro N f hk hf
      obtain ⟨N,rfl⟩:∃q,N=q+1:=⟨N - 1,Oo⟩
      -- f k is taken out; what was N takes its place
      refine ih N (fun t=>if f t=N then f k else f t) Oo fun c hc=> ?_
      obtain ⟨t,ht,e⟩:=hf c Oo
      by_cases q:t=k
      · subst q
        obtain ⟨s,hs,e2⟩:=hf N Oo
        by_cases q2:s=t
        · subst q2;omega
        · exact ⟨s,Oo,by rw [if_pos e2];exact e⟩
      · exact ⟨t,Oo,by rw [if_neg Oo];exact e⟩
  exact key ps.length n (fun t=>ps.getD t 0) hl all
theorem full (h:Rd (n+n) n m0 m n ps) (hB:Be n M m0) (hN:∀v:Nat→Rat,(∀i,i<n→sm n (fun j=>M i j*v j)=0)→∀i,i<n→v i=0):ps.length=n:=by
  by_cases hl:ps.length<n
  · exfalso
    obtain ⟨c,hc,hf⟩:=free h hl
    -- a null vector with 1 at the free column
    let x:Nat→Rat:=fun k=>if k=c then 1 else if k<n then (- sm ps.length fun t=>if ps.getD t 0=k then e m t c else 0) else 0
    have hx:∀i,i<n→sm (n+n) (fun k=>e m i k*x k)=0:=fun i hi=>by
      by_cases q:i<ps.length
      · have e1:sm (n+n) (fun k=>e m i k*x k)=sm (n+n) (fun k=>(if k=c then e m i k else 0)+(if k<n∧k≠c then - (sm ps.length fun t=>if ps.getD t 0=k then e m i k*e m t c else 0) else 0)):=by
          refine vo fun k _=> ?_
          show e m i k*(if k=c then 1 else if k<n then (- sm ps.length fun t=>if ps.getD t 0=k then e m t c else 0) else 0)=_
          by_cases k1:k=c
          · rw [if_pos k1,if_pos k1,if_neg (fun z=>z.2 k1)];grind
          · rw [if_neg k1, if_neg k1]
            by_cases k2:k<n
            · rw [if_pos k2,if_pos ⟨k2,k1⟩,Rat.mul_neg,←Vo,vo (n:=ps.length) fun t _=>show e m i k*(if ps.getD t 0=k then e m t c else 0)=if ps.getD t 0=k then e m i k*e m t c else 0 by split <;> grind];grind
            · rw [if_neg k2,if_neg (fun z=>k2 z.1)];grind
        rw [e1,za7,Ka (v:=0) Oo]
        have e2:sm (n+n) (fun k=>if k<n∧k≠c then - (sm ps.length fun t=>if ps.getD t 0=k then e m i k*e m t c else 0) else 0)= - sm (n+n) (fun k=>sm ps.length fun t=>if k=ps.getD t 0 then e m i k*e m t c else 0):=by
          have:∀f:Nat→Rat,- sm (n+n) f=sm (n+n) (fun k=> - f k):=fun f=>by
            have:=Vo (n+n) (-1) f
            rw [vo (g:=fun k=> - f k) fun k _=>by grind] at this
            rw [this];grind
          rw [this]
          refine vo fun k _=> ?_
          by_cases k1:k<n∧k≠c
          · rw [if_pos k1]
            congr 1
            exact vo fun t _=>by by_cases z:ps.getD t 0=k;rw [if_pos z,if_pos z.symm];rw [if_neg z,if_neg (fun y=>z y.symm)]
          · rw [if_neg k1, J9 fun t ht => ?_]
            · grind
            · have h1 := h.plt t ht
              have h2:=hf t ht
              exact if_neg fun z=>k1 ⟨Oo,fun y=>h2 Oo⟩
        rw [e2,zeI,vo (n:=ps.length) fun t ht=>by rw [Ka (v:=0) (f:=fun k=>e m i k*e m t c) (by have:=h.plt t ht;omega),h.one i t q ht]]
        have e3:sm ps.length (fun t=>(if i=t then (1:Rat) else 0)*e m t c)=e m i c:=by
          have:=Ka (n:=ps.length) (p:=i) (v:=0) (f:=fun t=>e m t c) q
          rw [← this];refine vo fun t _=> ?_
          by_cases z:t=i
          · rw [if_pos z.symm,if_pos z];grind
          · rw [if_neg (fun y=>z y.symm),if_neg z];grind
        rw [e3];grind
      · refine J9 fun k hk => ?_
        by_cases k2:k<n
        · rw [h.zero i k Oo hi k2];grind
        · have : x k = 0 := by show (if k = c then (1 : Rat) else if k < n then _ else 0) = 0; rw [if_neg Oo, if_neg k2]
          rw [this];grind
    have h0:=h.sup x hx
    have hv:∀i,i<n→sm n (fun j=>M i j*x j)=0:=fun i hi=>by
      have h1:=h0 i hi
      have e1:∀q,sm (n+q) (fun k=>e m0 i k*x k)=sm n (fun j=>M i j*x j):=by
        intro q
        induction q with
        |zero=>exact vo fun k hk=>by rw [hB i k hi,if_pos (show k<n from hk)]
        |succ q ih=>
          rw [show n+(q+1)=(n+q)+1 by omega,J8,ih]
          have:x (n+q)=0:=by show (if n+q=c then (1:Rat) else if n+q<n then _ else 0)=0;rw [if_neg Oo,if_neg Oo]
          rw [this];grind
      rw [e1] at h1;exact h1
    have h2:=hN x hv c hc
    have h3:x c=1:=if_pos rfl
    rw [h3] at h2;exact absurd h2 Od
  · have:=h.plk;omega
theorem zub (h:Rd (n+n) n m0 m n ps) (hl:ps.length=n) {t:Nat} (ht:t<n):ps.getD t 0=t:=by
  have ge:∀t,t<ps.length→t≤ps.getD t 0:=by
    intro t
    induction t with
    |zero=>intro _;omega
    |succ t ih=>intro ht;have:=ih Oo;have:=h.inc t (t+1) Oo ht;omega
  have le:∀d t,t+d+1=ps.length→ps.getD t 0+d<n:=by
    intro d
    induction d with
    |zero=>intro t e;exact h.plt t Oo
    |succ d ih=>intro t e;have:=ih (t+1) Oo;have:=h.inc t (t+1) Oo Oo;omega
  have h1:=ge t Oo
  have h2:=le (n - 1 - t) t Oo
  omega
theorem zpR (h:Rd (n+n) n m0 m n ps) (hB:Be n M m0) (hl:ps.length=n) {q r:Nat→Rat} (hq:∀i,i<n→sm n (fun j=>M i j*q j)=r i) {i:Nat} (hi:i<n):sm n (fun u=>e m i (n+u)*r u)=q i:=by
  obtain ⟨y,hy⟩:=h.sub i hi
  have hyu:∀u,u<n→e m i (n+u)=y u:=fun u hu=>by
    rw [hy (n+u) Oo]
    have:=Ka (n:=n) (p:=u) (v:=0) (f:=y) hu
    rw [← this]
    refine vo fun t ht=> ?_
    rw [hB t (n+u) ht,if_neg Oo,if_pos Oo]
    by_cases z:t=u
    · subst z;rw [if_pos rfl,if_pos rfl];grind
    · rw [if_neg Oo,if_neg z];grind
  have e1:sm n (fun u=>e m i (n+u)*r u)=sm n (fun u=>sm n fun c=>y u*M u c*q c):=vo fun u hu=>by
    rw [hyu u hu,←hq u hu,←Vo];exact vo fun c _=>by grind
  rw [e1,zeI]
  have e2:sm n (fun c=>sm n fun u=>y u*M u c*q c)=sm n (fun c=>if c=i then q c else 0):=vo fun c hc=>by
    have a:e m i c=sm n fun u=>y u*M u c:=by
      rw [hy c Oo];exact vo fun u hu=>by rw [hB u c hu,if_pos hc]
    have b:=h.one i c Oo Oo
    rw [zub h hl hc] at b
    rw [vo (g:=fun u=>q c*(y u*M u c)) fun u _=>by grind,Vo,←a,b]
    by_cases z:c=i
    · rw [if_pos z,if_pos z.symm];grind
    · rw [if_neg z,if_neg (fun k=>z k.symm)];grind
  rw [e2,Ka (v:=0) hi]
end
end Td
namespace Td
open Mx Big
structure Ry where
  (o0 o1 o2 a0 a1 a2:Rat)
abbrev r0:Ry:=⟨0,0,0,0,0,0⟩
def dl (l m:List Rat):Nat→Rat
  |0=>((0:Int):Rat)
  |i+1=>dl l m i+l.getD i 0*m.getD i 0
def dot (a b c x y z:Rat):Rat:=dl [a,b,c] [x,y,z] 3
theorem zsv (a b c x y z:Rat):dot a b c x y z=a*x+b*y+c*z:=by
  show ((0:Int):Rat)+a*x+b*y+c*z=_
  have:((0:Int):Rat)=0:=rfl
  rw [this];grind
theorem zuc:hq ((0:Int):Rat)=1:=Od
theorem zgp {l m:List Rat} {K:Nat} (h1:∀i,hq (l.getD i 0)≤K) (h2:∀i,hq (m.getD i 0)≤K):∀n,hq (dl l m n)≤1+n*(2*K+1)
  |0=>by show hq ((0:Int):Rat)≤_;rw [zuc];omega
  |n+1=>by
    have:=zgp h1 h2 n;have:=QX (dl l m n) (l.getD n 0*m.getD n 0);have:=jB (l.getD n 0) (m.getD n 0);have:=h1 n;have:=h2 n
    show hq (dl l m n+l.getD n 0*m.getD n 0)≤_
    rw [yT];omega
theorem b3 {a b c:Rat} {k:Nat} (h1:hq a≤k) (h2:hq b≤k) (h3:hq c≤k) (h:1≤k) (i:Nat):hq (([a,b,c]:List Rat).getD i 0)≤k:=by
  match i with
  |0=>exact h1
  |1=>exact h2
  |2=>exact h3
  |_+3=>simp [vN];exact h
theorem zsw {a b c x y z:Rat} {k:Nat} (h1:hq a≤k) (h2:hq b≤k) (h3:hq c≤k) (h4:hq x≤k) (h5:hq y≤k) (h6:hq z≤k) (h:1≤k):hq (dot a b c x y z)≤6*k+4:=by
  have:=zgp (b3 h1 h2 h3 h) (b3 h4 h5 h6 h) 3
  unfold dot;omega
theorem zrt {f:Nat→Rat} {c:Nat}:∀n,(∀i,i<n→hq (f i)≤c)→hq (sm n f)≤1+n*(c+1)
  |0,_=>by show hq 0≤_;rw [vN];omega
  |n+1,h=>by
    have:=zrt n (fun i hi=>h i Oo);have:=QX (sm n f) (f n);have:=h n Oo
    show hq (sm n f+f n)≤_
    rw [yT];omega
def zz (l:List Rat) (ln:Rat) (i j:Nat):Rat:=if i=j then -(l.getD i 0*l.getD j 0 / ln)+((1:Int):Rat) else -(l.getD i 0*l.getD j 0 / ln)
def gr (l:List Ry) (k:Nat):Ry:=l.getD k ⟨0,0,0,0,0,0⟩
def Ry.lg (r:Ry):Rat:=dot r.a0 r.a1 r.a2 r.a0 r.a1 r.a2
def xr (r:Ry) (w:Int) (i j:Nat):Rat:=(w:Rat)*zz [r.a0,r.a1,r.a2] r.lg i j
def Ry.o (r:Ry) (j:Nat):Rat:=([r.o0,r.o1,r.o2]:List Rat).getD j 0
def xx (l:List Ry) (W:List Int) (k i j:Nat):Rat:=xr (gr l k) (W.getD k 0) i j
def ne (l:List Ry) (W:List Int) (k s i j:Nat):Rat:=sm k (fun q=>xx l W q i j)+(if 3*i+j<s then xx l W k i j else 0)
def nM (l:List Ry) (W:List Int) (k s:Nat):Mt:=mk 3 3 (fun i j=>ne l W k s i j)
structure Ok (l:List Ry) (W:List Int) (n:Nat):Prop where
  hl:l.length=n
  hW:W.length=n
  n2:1≤n∧n≤2
  b:∀k,k<n→(hq (gr l k).o0≤1∧hq (gr l k).o1≤1∧hq (gr l k).o2≤1)∧hq (gr l k).a0≤1∧hq (gr l k).a1≤1∧hq (gr l k).a2≤1
  w:∀k,k<n→1≤W.getD k 0∧W.getD k 0≤0x100000
  d:∀k,k<n→(gr l k).a2≠0
def al (r:Ry) (i:Nat):Rat:=([r.a0,r.a1,r.a2]:List Rat).getD i 0
theorem zud (r:Ry):r.lg=dt (al r):=by unfold Ry.lg;rw [zsv];rfl
theorem zue {r:Ry} (h:r.a2≠0):r.lg≠0:=by
  rw [zud]
  have:=zh4 (a:=al r) (z:=r.a2) rfl h
  grind
section
variable {l : List Ry} {W : List Int} {n : Nat}
theorem zuf {r:Ry} (h0:hq r.a0≤1) (h1:hq r.a1≤1) (h2:hq r.a2≤1):hq r.lg≤10:=zsw h0 h1 h2 h0 h1 h2 (yF _)
theorem w_hq {w:Int} (h:1≤w∧w≤0x100000):hq (w:Rat)≤1:=by
  refine yJ (zcC w) (Nat.max_le.2 ⟨?_,yF _⟩)
  have e:pw 1=1000000000:=Od
  exact Kv (by rw [e];omega) (by rw [e];omega)
theorem zug {r:Ry} (h0:hq r.a0≤1) (h1:hq r.a1≤1) (h2:hq r.a2≤1) (hd:r.a2≠0) (i j:Nat):hq (zz [r.a0,r.a1,r.a2] r.lg i j)≤14:=by
  have a:=b3 h0 h1 h2 (yF _) i
  have b:=b3 h0 h1 h2 (yF _) j
  have c:=zuf h0 h1 h2
  have d:=jB (([r.a0,r.a1,r.a2]:List Rat).getD i 0) (([r.a0,r.a1,r.a2]:List Rat).getD j 0)
  have e:=Qs (([r.a0,r.a1,r.a2]:List Rat).getD i 0*([r.a0,r.a1,r.a2]:List Rat).getD j 0) (zue hd)
  have f:=KN (([r.a0,r.a1,r.a2]:List Rat).getD i 0*([r.a0,r.a1,r.a2]:List Rat).getD j 0 / r.lg)
  have g:=QX (-(([r.a0,r.a1,r.a2]:List Rat).getD i 0*([r.a0,r.a1,r.a2]:List Rat).getD j 0 / r.lg)) ((1:Int):Rat)
  have o1:hq ((1:Int):Rat)=1:=Od
  unfold zz
  split <;> omega
theorem Ok.xx (h:Ok l W n) {k:Nat} (hk:k<n) (i j:Nat):hq (xx l W k i j)≤15:=by
  obtain ⟨_,h0,h1,h2⟩:=h.b k hk
  have:=zug h0 h1 h2 (h.d k hk) i j
  have:=w_hq (h.w k hk)
  have:=jB ((W.getD k 0:Int):Rat) (zz [(gr l k).a0,(gr l k).a1,(gr l k).a2] (gr l k).lg i j)
  unfold Td.xx xr;omega
theorem Ok.ne (h:Ok l W n) {k s:Nat} (hk:k<n∨k=n∧s=0) (i j:Nat):hq (ne l W k s i j)≤60:=by
  have hn:=h.n2
  have:=zrt (f:=fun q=>Td.xx l W q i j) (c:=15) k (fun q hq=>h.xx Oo i j)
  have e:k*(15+1)≤2*(15+1):=yL _ Oo
  unfold Td.ne
  have:=QX (sm k fun q=>Td.xx l W q i j) (if 3*i+j<s then Td.xx l W k i j else 0)
  have:hq (if 3*i+j<s then Td.xx l W k i j else 0)≤15:=by
    split
    · exact h.xx Oo i j
    · rw [vN];omega
  omega
theorem Ok.bd (h:Ok l W n):bd (nM l W n 0) 60:=fun i j=>by
  by_cases hi:i<3
  · by_cases hj : j < 3
    · unfold nM;rw [zbK hi hj];exact h.ne (.inr ⟨rfl,rfl⟩) i j
    · have:e (nM l W n 0) i j=0:=by
        unfold nM e;rw [Q3 hi,jR,if_neg hj]
      rw [this,vN];omega
  · have:e (nM l W n 0) i j=0:=by
      unfold nM e
      have hlen:=Mx.ja 3 3 (fun i j=>Td.ne l W n 0 i j)
      rw [show (Mx.mk 3 3 fun i j=>Td.ne l W n 0 i j).getD i []=[] by rw [yD,yG (by rw [hlen];omega)];rfl]
      rfl
    rw [this,vN];omega
end
end Td
namespace Td
open Mx Big
def un (i j:Nat):Rat:=if i=j then ((1:Int):Rat) else ((0:Int):Rat)
def eW (n:Nat) (M:Mt) (i j:Nat):Rat:=e M i (n+j)
theorem zm2 {A:Mt} {n:Nat}:Be n (fun i j=>e A i j) (mk n (n+n) (fun ii jj=>eB A (mk n n (fun ii jj=>un ii jj)) n ii jj)):=fun i c hi=>by
  by_cases h:c<n+n
  · rw [zbK hi h]
    unfold eB
    by_cases q:c<n
    · rw [if_pos q,if_pos q]
    · rw [if_neg q, if_neg q, if_pos h]
      show e (mk n n (fun ii jj=>un ii jj)) i (c - n)=_
      rw [zbK hi Oo]
      unfold un
      by_cases z:c=n+i
      · rw [if_pos Oo,if_pos z];rfl
      · rw [if_neg Oo,if_neg z];rfl
  · rw [if_neg Oo, if_neg h]
    unfold e
    rw [Q3 hi,jR,if_neg h]
structure Inv (A B:Mt) (n k:Nat):Prop where
  l:B.length=n
  r:∀i,i<n→(B.getD i []).length=n
  b:∀i j,hq (e B i j)≤k
  s:∀q r:Nat→Rat,(∀i,i<n→sm n (fun j=>e A i j*q j)=r i)→∀i,i<n→sm n (fun u=>e B i u*r u)=q i
theorem zm3 {K N k:Nat} {f:Nat→Nat→Rat} (h:∀i j,hq (f i j)≤k) (h1:1≤k) (i j:Nat):hq (e (mk K N f) i j)≤k:=by
  unfold e
  by_cases hi:i<K
  · rw [Q3 hi, jR]
    split
    · exact h i j
    · rw [vN];exact h1
  · have hl := ja K N f
    rw [show (mk K N f).getD i []=[] by rw [yD,yG (by rw [hl];omega)];rfl]
    show hq 0≤k
    rw [vN];exact h1
theorem inv_of {A m:Mt} {n k:Nat} {ps:List Nat} (h:Rd (n+n) n (mk n (n+n) (fun ii jj=>eB A (mk n n (fun ii jj=>un ii jj)) n ii jj)) m n ps) (hN:∀v:Nat→Rat,(∀i,i<n→sm n (fun j=>e A i j*v j)=0)→∀i,i<n→v i=0) (hb:bd m k) (h1:1≤k):
    ps.length=n∧Inv A (mk n n (fun ii jj=>eW n m ii jj)) n k:=by
  have hl:=full h zm2 hN
  refine ⟨hl,ja ..,fun i hi=>by rw [Q3 hi];simp,fun i j=>zm3 (fun i j=>hb i _) h1 i j,fun q r hq i hi=> ?_⟩
  rw [← zpR h zm2 hl hq hi]
  exact vo fun u hu=>by rw [zbK hi hu];rfl
theorem zsx {A:Mt} {n b:Nat} (hA:bd A b) (h1:1≤b):bd (mk n (n+n) (fun ii jj=>eB A (mk n n (fun ii jj=>un ii jj)) n ii jj)) b:=fun i j=>zm3 (fun i j=>by
  have u:∀i j,hq (un i j)≤b:=fun i j=>by
    unfold un
    have o1:hq ((1:Int):Rat)=1:=Od
    split
    · omega
    · rw [zuc];exact h1
  unfold eB
  split
  · exact hA i j
  · exact zm3 u h1 i _) h1 i j
section
variable {l : List Ry} {W : List Int} {n : Nat} {x y z : Rat}
end
section
variable {f b d : Int}
end
end Td
namespace Ro
open Mx Big Td
def nvS (N:Nat) (M:Mt) (qs:List Nat) (j:Nat):Nat→List Rat
  |0=>(List.range N).map fun c=>un c j
  |k+1=>(nvS N M qs j k).set (qs.getD k 0) (-(e M k j))
def fc (qs:List Nat):Nat→List Nat
  |0=>[]
  |j+1=>if j∈qs then fc qs j else fc qs j++[j]
def nl (N:Nat) (M:Mt) (qs:List Nat) (J:Nat):List (List Rat):=(fc qs J).map fun j=>nvS N M qs j qs.length
theorem zru {N:Nat} {M:Mt} {qs:List Nat} {j:Nat} (h:j∈qs):nl N M qs j=nl N M qs (j+1):=by
  unfold nl;rw [show fc qs (j+1)=fc qs j from if_pos h]
theorem zve {N:Nat} {M:Mt} {qs:List Nat} {j:Nat} (h:¬j∈qs):nl N M qs j++[nvS N M qs j qs.length]=nl N M qs (j+1):=by
  unfold nl;rw [show fc qs (j+1)=fc qs j++[j] from if_neg h,List.map_append];rfl
theorem zm4 (qs:List Nat):∀J,(fc qs J).length≤J
  |0=>yF _
  |J+1=>by
    have:=zm4 qs J
    unfold fc;split
    · omega
    · rw [yal];show _+1≤_;omega
theorem zsy (N:Nat) (M:Mt) (qs:List Nat) (J:Nat):(nl N M qs J).length≤J:=by unfold nl;rw [yN];exact zm4 qs J
theorem JA (N:Nat) (M:Mt) (qs:List Nat) (j:Nat):∀k,(nvS N M qs j k).length=N
  |0=>by show ((List.range N).map _).length=N;simp
  |k+1=>by unfold nvS;rw [yM];exact JA N M qs j k
theorem zcX {N:Nat} {M:Mt} {qs:List Nat} {j k c:Nat} (hc:c<N):(nvS N M qs j (k+1)).getD c 0=if c=qs.getD k 0∧qs.getD k 0<N then -(e M k j) else (nvS N M qs j k).getD c 0:=by
  conv=>lhs;unfold nvS
  by_cases h:qs.getD k 0<N
  · rw [Zk (by rw [JA]; exact h)]
    by_cases e1:c=qs.getD k 0
    · rw [if_pos e1,if_pos ⟨e1,h⟩]
    · rw [if_neg e1,if_neg (fun z=>e1 z.1)]
  · rw [if_neg (fun z=>h z.2),List.set_eq_of_length_le (by rw [JA];omega)]
theorem zjP {N K:Nat} {m0 M:Mt} {qs:List Nat} (h:Rd N K m0 M N qs) {j s:Nat}:∀k,s<k→k≤qs.length→(nvS N M qs j k).getD (qs.getD s 0) 0= -(e M s j)
  |0,h1,_=>by omega
  |k+1,h1,h2=>by
    have hs:=h.plt s Oo
    rw [zcX hs]
    by_cases z:s=k
    · subst z;rw [if_pos ⟨rfl,hs⟩]
    · have := h.inc s k Oo Oo
      rw [if_neg Oo]
      exact zjP h k Oo Oo
theorem JU {N:Nat} {M:Mt} {qs:List Nat} {j c:Nat} (hc:c<N) (hq:¬c∈qs):∀k,k≤qs.length→(nvS N M qs j k).getD c 0=un c j
  |0,_=>by show ((List.range N).map _).getD c 0=_;rw [jR,if_pos hc]
  |k+1,hk=>by
    rw [zcX hc,if_neg (fun z=>hq (by rw [z.1];exact get_mem Oo))]
    exact JU hc hq k Oo
theorem zbX {qs:List Nat} {c:Nat} (h:c∈qs):∃s,s<qs.length∧qs.getD s 0=c:=by
  obtain ⟨s,hs,e1⟩:=List.mem_iff_getElem.1 h
  exact ⟨s,hs,by rw [yD,yE hs];exact e1⟩
theorem zsz {N B:Nat} {M:Mt} {qs:List Nat} {j:Nat} (hB:Mx.bd M B) (h1:1≤B) (c:Nat):∀k,hq ((nvS N M qs j k).getD c 0)≤B
  |0=>by
    show hq (((List.range N).map _).getD c 0)≤B
    rw [jR]
    split
    · have:hq (un c j)≤1:=by
        unfold un;split
        · rw [show ((1:Int):Rat)=1 by decide +kernel,zeC];exact yF _
        · rw [show ((0:Int):Rat)=0 by decide +kernel,vN];exact yF _
      omega
    · rw [vN];exact h1
  |k+1=>by
    by_cases hc:c<N
    · rw [zcX hc]
      split
      · rw [KN];exact hB k j
      · exact zsz hB h1 c k
    · rw [yD, yG (by rw [JA]; omega)]
      show hq 0≤B;rw [vN];exact h1
def Nul (N K:Nat) (m:Mt) (x:Nat→Rat):Prop:=∀i,i<K→sm N (fun c=>e m i c*x c)=0
section
variable {N K : Nat} {m0 M : Mt} {qs : List Nat}
theorem zpT (h:Rd N K m0 M N qs) {x:Nat→Rat} (hx:Nul N K m0 x):Nul N K M x:=fun i hi=>by
  obtain ⟨y,hy⟩:=h.sub i hi
  have e1:sm N (fun c=>e M i c*x c)=sm N (fun c=>sm K (fun t=>y t*(e m0 t c*x c))):=vo fun c hc=>by
    rw [hy c hc,show (fun t=>y t*(e m0 t c*x c))=fun t=>x c*(y t*e m0 t c) from funext fun t=>by grind,Vo];grind
  rw [e1,zeI]
  exact J9 fun t ht=>by rw [Vo,hx t ht];grind
theorem zgq (h:Rd N K m0 M N qs) {j:Nat} (hj:j<N) (hq:¬j∈qs):Nul N K m0 (fun c=>(nvS N M qs j qs.length).getD c 0):=by
  refine h.sup _ fun t ht=> ?_
  by_cases h2:t<qs.length
  · have hp := h.plt t h2
    have e1:sm N (fun c=>e M t c*(nvS N M qs j qs.length).getD c 0)=sm N (fun c=>(if c=j then e M t c else 0)+(if c=qs.getD t 0 then -(e M t j) else 0)):=vo fun c hc=>by
      by_cases h3:c∈qs
      · obtain ⟨s, hs, rfl⟩ := zbX h3
        have hnj:¬qs.getD s 0=j:=fun z=>hq (by rw [← z];exact h3)
        rw [zjP h qs.length hs (yF _),h.one t s h2 hs,if_neg hnj]
        by_cases z:t=s
        · subst z;rw [if_pos rfl,if_pos rfl];grind
        · rw [if_neg z,if_neg (fun w=>z (h.inj h2 hs w.symm))];grind
      · rw [JU hc h3 qs.length (yF _), if_neg (fun w : c = qs.getD t 0 => h3 (by rw [w]; exact get_mem h2))]
        unfold un
        by_cases z:c=j
        · rw [if_pos z,if_pos z];rw [show ((1:Int):Rat)=1 by decide +kernel];grind
        · rw [if_neg z,if_neg z];rw [show ((0:Int):Rat)=0 by decide +kernel];grind
    rw [e1,za7,Ka hj (v:=0),Ka (f:=fun _=> -(e M t j)) hp (v:=0)];grind
  · exact J9 fun c hc=>by rw [h.zero t c Oo ht hc];grind
theorem zm5 (h:Rd N K m0 M N qs) {x:Nat→Rat} (hx:Nul N K m0 x) (hz:∀c,c<N→¬c∈qs→x c=0):∀c,c<N→x c=0:=fun c hc=>by
  by_cases h3:c∈qs
  · obtain ⟨t, ht, rfl⟩ := zbX h3
    have h1:=zpT h hx t (by have:=h.plk;omega)
    have e1:sm N (fun c=>e M t c*x c)=sm N (fun c=>if c=qs.getD t 0 then x c else 0):=vo fun c hc=>by
      by_cases h4:c∈qs
      · obtain ⟨s, hs, rfl⟩ := zbX h4
        rw [h.one t s ht hs]
        by_cases z:t=s
        · subst z;rw [if_pos rfl,if_pos rfl];grind
        · rw [if_neg z,if_neg (fun w=>z (h.inj ht hs w.symm))];grind
      · rw [hz c hc h4,if_neg (fun w:c=qs.getD t 0=>h4 (by rw [w];exact get_mem ht))];grind
    rw [e1,Ka hc (v:=0)] at h1
    exact h1
  · exact hz c hc h3
end
theorem zcY {qs:List Nat} {c:Nat}:∀J,c∈fc qs J↔c<J∧¬c∈qs
  |0=>by simp [fc]
  |J+1=>by
    have:=zcY (qs:=qs) (c:=c) J
    unfold fc;split
    · rename_i h
      rw [this]
      constructor
      · exact fun z=>⟨Oo,z.2⟩
      · refine fun z => ⟨?_, z.2⟩
        have:c≠J:=fun w=>z.2 (by rw [w];exact h)
        omega
    · rename_i h
      rw [List.mem_append,this,List.mem_singleton]
      constructor
      · rintro (z | z)
        · exact ⟨Oo,z.2⟩
        · exact ⟨Oo,by rw [z];exact h⟩
      · intro z
        by_cases w:c=J
        · exact .inr w
        · exact .inl ⟨Oo,z.2⟩
theorem zh5 {qs:List Nat}:∀J,(fc qs J).Pairwise (· < ·)
  |0=>List.Pairwise.nil
  |J+1=>by
    unfold fc;split
    · exact zh5 J
    · rw [List.pairwise_append]
      refine ⟨zh5 J,List.pairwise_singleton _ _,fun a ha b hb=> ?_⟩
      have:=((zcY J).1 ha).1
      rw [List.mem_singleton.1 hb];exact this
structure Two (N K:Nat) (m0:Mt) (v0 v1:List Rat) (j0 j1:Nat):Prop where
  lt:j0<j1
  hN:j1<N
  l0:v0.length=N
  l1:v1.length=N
  n0:Nul N K m0 (fun c=>v0.getD c 0)
  n1:Nul N K m0 (fun c=>v1.getD c 0)
  a00:v0.getD j0 0=1
  a01:v0.getD j1 0=0
  a10:v1.getD j0 0=0
  a11:v1.getD j1 0=1
  all:∀x:Nat→Rat,Nul N K m0 x→∀c,c<N→x c=x j0*v0.getD c 0+x j1*v1.getD c 0
theorem zpU {N K:Nat} {m0 M:Mt} {qs:List Nat} (h:Rd N K m0 M N qs) (hl:(nl N M qs N).length=2):
    ∃v0 v1 j0 j1,nl N M qs N=[v0,v1]∧Two N K m0 v0 v1 j0 j1:=by
  have hl':(fc qs N).length=2:=by unfold nl at hl;rwa [yN] at hl
  obtain ⟨j0,j1,hj⟩:∃a b,fc qs N=[a,b]:=by
    match h:fc qs N,hl' with
    |[a,b],_=>exact ⟨a,b,rfl⟩
  have hm0:=(zcY (qs:=qs) (c:=j0) N).1 (by rw [hj];simp)
  have hm1:=(zcY (qs:=qs) (c:=j1) N).1 (by rw [hj];simp)
  have hlt:j0<j1:=by
    have:=zh5 (qs:=qs) N
    rw [hj] at this
    simpa using this
  have u1:∀c,un c c=1:=fun c=>by unfold un;rw [if_pos rfl];decide +kernel
  have u0:∀a b:Nat,a≠b→un a b=0:=fun a b h=>by unfold un;rw [if_neg h];decide +kernel
  have n0:=zgq h hm0.1 hm0.2
  have n1:=zgq h hm1.1 hm1.2
  have a00:(nvS N M qs j0 qs.length).getD j0 0=1:=by rw [JU hm0.1 hm0.2 _ (yF _),u1]
  have a01:(nvS N M qs j0 qs.length).getD j1 0=0:=by rw [JU hm1.1 hm1.2 _ (yF _),u0 _ _ Oo]
  have a10:(nvS N M qs j1 qs.length).getD j0 0=0:=by rw [JU hm0.1 hm0.2 _ (yF _),u0 _ _ Oo]
  have a11:(nvS N M qs j1 qs.length).getD j1 0=1:=by rw [JU hm1.1 hm1.2 _ (yF _),u1]
  refine ⟨nvS N M qs j0 qs.length,nvS N M qs j1 qs.length,j0,j1,by unfold nl;rw [hj];rfl,hlt,hm1.1,JA ..,JA ..,n0,n1,a00,a01,a10,a11,fun x hx c hc=> ?_⟩
  have key:=zm5 h (x:=fun c=>x c - (x j0*(nvS N M qs j0 qs.length).getD c 0+x j1*(nvS N M qs j1 qs.length).getD c 0)) (fun i hi=>by
    have e1:sm N (fun c=>e m0 i c*(x c - (x j0*(nvS N M qs j0 qs.length).getD c 0+x j1*(nvS N M qs j1 qs.length).getD c 0)))=sm N (fun c=>e m0 i c*x c) - (x j0*sm N (fun c=>e m0 i c*(nvS N M qs j0 qs.length).getD c 0)+x j1*sm N (fun c=>e m0 i c*(nvS N M qs j1 qs.length).getD c 0)):=by
      rw [← Vo,←Vo,←za7,←zhR]
      exact vo fun c _=>by grind
    rw [e1,hx i hi,n0 i hi,n1 i hi];grind) (fun c hc hq=>by
    have hcf:=(zcY (qs:=qs) (c:=c) N).2 ⟨hc,hq⟩
    rw [hj] at hcf
    simp only [List.mem_cons,List.not_mem_nil,or_false] at hcf
    rcases hcf with rfl|rfl
    · rw [a00,a10];grind
    · rw [a01,a11];grind) c hc
  grind
end Ro
namespace Ro
theorem php:∀(M N:Nat) (f:Nat→Nat),M<N→(∀i,i<N→f i<M)→∃i j,i<j∧j<N∧f i=f j
  |0,N,f,h,hf=>by have:=hf 0 Oo;omega
  |M+1,N,f,h,hf=>by
    obtain ⟨n,rfl⟩:∃n,N=n+1:=⟨N - 1,Oo⟩
    by_cases k:∃i,i<n∧f i=f n
    · obtain ⟨i, h1, h2⟩ := k
      exact ⟨i,n,h1,Oo,h2⟩
    · have hv := hf n Oo
      obtain ⟨i,j,h1,h2,h3⟩:=php M n (fun i=>if f i=M then f n else f i) Oo (fun i hi=>by
        have h1:=hf i Oo
        by_cases e:f i=M
        · simp only [e, if_true]
          have:f n≠M:=fun z=>k ⟨i,hi,Oo⟩
          omega
        · simp only [e,if_false];omega)
      refine ⟨i,j,h1,Oo,?_⟩
      have h3:(if f i=M then f n else f i)=(if f j=M then f n else f j):=h3
      by_cases e:f i=M
      · by_cases e' : f j = M
        · omega
        · rw [if_pos e, if_neg e'] at h3
          exact absurd ⟨j,h2,h3.symm⟩ k
      · by_cases e' : f j = M
        · rw [if_neg e, if_pos e'] at h3
          exact absurd ⟨i,Oo,h3⟩ k
        · rw [if_neg e, if_neg e'] at h3
          exact h3
def dg (b k c:Nat):Nat:=k / b^c%b
theorem zrv {b:Nat}:∀(n k l:Nat),(∀c,c<n→dg b k c=dg b l c)→k%b^n=l%b^n
  |0,k,l,_=>by simp [Nat.mod_one]
  |n+1,k,l,h=>by
    rw [Nat.mod_pow_succ,Nat.mod_pow_succ,zrv n k l fun c hc=>h c Oo]
    have:=h n Oo
    unfold dg at this
    rw [this]
def sI (n:Nat) (f:Nat→Int):Int:=match n with
  |0=>0
  |n+1=>sI n f+f n
theorem zm6:∀(n:Nat) (f g:Nat→Int),sI n (fun i=>f i - g i)=sI n f - sI n g
  |0,_,_=>rfl
  |n+1,f,g=>by show sI n _+(f n - g n)=sI n f+f n - (sI n g+g n);rw [zm6 n];omega
theorem zcZ:∀(n:Nat) {f g:Nat→Int},(∀i,i<n→f i=g i)→sI n f=sI n g
  |0,_,_,_=>rfl
  |n+1,f,g,h=>by show sI n f+f n=sI n g+g n;rw [zcZ n fun i hi=>h i Oo,h n Oo]
theorem zrw {B:Int}:∀(n:Nat) {f:Nat→Int},(∀i,i<n→ -B≤f i∧f i≤B)→ -((n:Int)*B)≤sI n f∧sI n f≤(n:Int)*B
  |0,_,_=>by show -((0:Int)*B)≤0∧0≤(0:Int)*B;omega
  |n+1,f,h=>by
    have h1:=zrw n fun i hi=>h i Oo
    have h2:=h n Oo
    have e:((n+1:Nat):Int)*B=(n:Int)*B+B:=by rw [Int.natCast_add,Int.add_mul];simp
    show _≤sI n f+f n∧sI n f+f n≤_
    rw [e];omega
def cd (W:Nat) (f:Nat→Nat):Nat→Nat
  |0=>0
  |r+1=>cd W f r+f r*W^r
theorem zjQ {W:Nat} {f:Nat→Nat}:∀m,(∀r,r<m→f r<W)→cd W f m<W^m
  |0,_=>by show 0<W^0;simp
  |m+1,h=>by
    have h1:=zjQ m fun r hr=>h r Oo
    have h2:=h m Oo
    have:(f m+1)*W^m≤W*W^m:=yL _ h2
    rw [yT] at this
    show cd W f m+f m*W^m<W^(m+1)
    rw [Nat.pow_succ,yan (W^m) W];omega
theorem zm7 {W:Nat} {f g:Nat→Nat}:∀m,(∀r,r<m→f r<W)→(∀r,r<m→g r<W)→cd W f m=cd W g m→∀r,r<m→f r=g r
  |0,_,_,_,r,h=>by omega
  |m+1,hf,hg,e,r,hr=>by
    have h1:=zjQ m fun r hr=>hf r Oo
    have h2:=zjQ m fun r hr=>hg r Oo
    have e':cd W f m+f m*W^m=cd W g m+g m*W^m:=e
    have hW:0<W^m:=Nat.lt_of_le_of_lt (yO _) h1
    have q1:(cd W f m+f m*W^m) / W^m=f m:=by rw [Nat.add_mul_div_right _ _ hW,yap h1];omega
    have q2:(cd W g m+g m*W^m) / W^m=g m:=by rw [Nat.add_mul_div_right _ _ hW,yap h2];omega
    have h3:f m=g m:=by rw [← q1,←q2,e']
    by_cases z:r=m
    · rw [z];exact h3
    · rw [h3] at e'
      exact zm7 m (fun r hr=>hf r Oo) (fun r hr=>hg r Oo) Oo r Oo
theorem zsA {z B x H:Int} (hz: -B≤z∧z≤B) (hx:0≤x∧x≤H): -(B*H)≤z*x∧z*x≤B*H:=by
  have hB:0≤B:=Oo
  have h1:=yag hz.2 hx.1
  have h2:=Int.mul_le_mul_of_nonneg_left hx.2 hB
  have h3:=yag hz.1 hx.1
  rw [Int.neg_mul] at h3
  omega
theorem zsB {m n B H:Nat} {Z:Nat→Nat→Int} (hZ:∀r c,-(B:Int)≤Z r c∧Z r c≤B) (hH:(2*(n*(B*H))+1)^m<(H+1)^n):
    ∃x:Nat→Int,(∃c,c<n∧x c≠0)∧(∀c,-(H:Int)≤x c∧x c≤H)∧∀r,r<m→sI n (fun c=>Z r c*x c)=0:=by
  have hdg:∀k c,dg (H+1) k c≤H:=fun k c=>by have:dg (H+1) k c<H+1:=yah _ Oo;omega
  have hrow:∀k r,-((n*(B*H):Nat):Int)≤sI n (fun c=>Z r c*(dg (H+1) k c:Int))∧sI n (fun c=>Z r c*(dg (H+1) k c:Int))≤((n*(B*H):Nat):Int):=fun k r=>by
    have:=zrw (B:=((B*H:Nat):Int)) n (f:=fun c=>Z r c*(dg (H+1) k c:Int)) fun c _=>by
      have:=zsA (hZ r c) (x:=(dg (H+1) k c:Int)) (H:=(H:Int)) ⟨Oo,by have:=hdg k c;omega⟩
      rw [yai];exact this
    rw [yai n (B*H)];exact this
  generalize hU:n*(B*H)=U at*
  have hcode:∀k r,(sI n (fun c=>Z r c*(dg (H+1) k c:Int))+(U:Int)).toNat<2*U+1:=fun k r=>by have:=hrow k r;omega
  obtain ⟨i,j,hij,hj,he⟩:=php ((2*U+1)^m) ((H+1)^n) (fun k=>cd (2*U+1) (fun r=>(sI n (fun c=>Z r c*(dg (H+1) k c:Int))+(U:Int)).toNat) m) hH (fun k _=>zjQ m fun r _=>hcode k r)
  have hc:=zm7 m (fun r _=>hcode i r) (fun r _=>hcode j r) he
  refine ⟨fun c=>(dg (H+1) i c:Int) - (dg (H+1) j c:Int),?_,fun c=>by have:=hdg i c;have:=hdg j c;show -(H:Int)≤(dg (H+1) i c:Int) - (dg (H+1) j c:Int)∧(dg (H+1) i c:Int) - (dg (H+1) j c:Int)≤H;omega,fun r hr=> ?_⟩
  · refine yU fun k => ?_
    have:i%(H+1)^n=j%(H+1)^n:=zrv n i j fun c hc=>yU fun z=>k ⟨c,hc,by show (dg (H+1) i c:Int) - (dg (H+1) j c:Int)≠0;omega⟩
    rw [yaq Oo,yaq hj] at this
    omega
  · have h1 := hc r hr
    have h2:=hrow i r
    have h3:=hrow j r
    rw [zcZ n (g:=fun c=>Z r c*(dg (H+1) i c:Int) - Z r c*(dg (H+1) j c:Int)) fun c _=>by rw [Int.mul_sub],zm6]
    omega
end Ro
namespace Po
def vals (l:List (Option Rat)):List Rat:=l.map (·.getD 0)
def gen (g:Nat→Rat):Nat→List Rat
  |0=>[]
  |n+1=>gen g n++[g n]
def tn (l:List Rat):Nat→Nat
  |0=>0
  |n+1=>if l.getD n 0=0 then tn l n else n+1
def cl (l:List Rat):List Rat:=l.take (tn l l.length)
theorem ZS (g:Nat→Rat):∀n,(gen g n).length=n
  |0=>rfl
  |n+1=>by simp [gen,ZS g n]
theorem VV (g:Nat→Rat):∀n i,(gen g n).getD i 0=if i<n then g i else 0
  |0,i=>by simp [gen]
  |n+1,i=>by
    simp only [gen]
    by_cases h:i<n
    · rw [yD,List.getElem?_append_left (by rw [ZS];exact h),←yD,VV g n i,if_pos h,if_pos Oo]
    · rw [yD, List.getElem?_append_right (by rw [ZS]; omega), ZS]
      by_cases h1:i=n
      · subst h1;simp
      · rw [if_neg Oo]
        have:1≤i - n:=Oo
        obtain ⟨j,hj⟩:∃j,i - n=j+1:=⟨i - n - 1,Oo⟩
        rw [hj];simp
theorem zm8 (l:List Rat):∀n,tn l n≤n
  |0=>yF 0
  |n+1=>by
    simp only [tn]
    split
    · have:=zm8 l n;omega
    · omega
theorem zjR (l:List Rat):∀n i,tn l n≤i→i<n→l.getD i 0=0
  |0,i,_,h=>by omega
  |n+1,i,h,h2=>by
    simp only [tn] at h
    split at h
    · rename_i h3
      by_cases e:i=n
      · subst e;exact h3
      · exact zjR l n i h Oo
    · omega
theorem zjS (l:List Rat):∀n,0<tn l n→l.getD (tn l n - 1) 0≠0
  |0,h=>by simp [tn] at h
  |n+1,h=>by
    simp only [tn] at h ⊢
    split
    · rename_i h3;rw [if_pos h3] at h;exact zjS l n h
    · rename_i h3;simpa using h3
theorem zeS (l:List Rat):(cl l).length=tn l l.length:=by
  unfold cl
  rw [yao]
  have:=zm8 l l.length
  omega
theorem Zf (l:List Rat) (i:Nat):(cl l).getD i 0=l.getD i 0:=by
  by_cases h:i<tn l l.length
  · unfold cl
    rw [yD,List.getElem?_take,if_pos h,←yD]
  · have h1:(cl l).getD i 0=0:=by
      rw [yD,yG (by rw [zeS];omega)];rfl
    rw [h1]
    by_cases h2:i<l.length
    · exact (zjR l _ i Oo h2).symm
    · rw [yD,yG Oo];rfl
theorem zeT {l:List Rat} (h:cl l≠[]):(cl l).getD ((cl l).length - 1) 0≠0:=by
  have hp:0<tn l l.length:=by rw [← zeS];exact yab.2 h
  rw [Zf,zeS]
  exact zjS l _ hp
theorem zh6 {l m:List Rat} (h:∀i,l.getD i 0=m.getD i 0):cl l=cl m:=by
  have hlen:(cl l).length=(cl m).length:=by
    have aux:∀{l m:List Rat},(∀i,l.getD i 0=m.getD i 0)→(cl l).length≤(cl m).length:=by
      intro l m h
      by_cases hl:cl l=[]
      · rw [hl];exact yO _
      · have h1 := zeT hl
        rw [Zf,h,←Zf m] at h1
        refine yaa fun hlt=>h1 ?_
        rw [yD,yG Oo];rfl
    exact Nat.le_antisymm (aux h) (aux fun i=>(h i).symm)
  refine List.ext_getElem? fun i=> ?_
  by_cases hi:i<(cl l).length
  · have e := Zf l i
    rw [h i,←Zf m i] at e
    rw [yD,yD,yE hi,yE Oo] at e
    rw [yE hi,yE Oo]
    exact congrArg some e
  · rw [yG Oo,yG Oo]
def cv (p q:List Rat) (k lo:Nat):Nat→Rat
  |0=>0
  |n+1=>cv p q k lo n+p.getD (lo+n) 0*q.getD (k - (lo+n)) 0
def ev (x:Rat):List Rat→Rat
  |[]=>0
  |a :: l=>ev x l*x+a
def add (p q:List Rat):List Rat:=cl (gen (fun i=>p.getD i 0+q.getD i 0) (max p.length q.length))
def sub (p q:List Rat):List Rat:=cl (gen (fun i=>p.getD i 0 - q.getD i 0) (max p.length q.length))
def zh7 (p q:List Rat):List Rat:=if p=[]∨q=[] then [] else cl (gen (fun k=>cv p q k (k+1 - q.length) (min k (p.length - 1)+1 - (k+1 - q.length))) (p.length+q.length - 1))
def mul (p q:List Rat):List Rat:=zh7 (cl p) (cl q)
def vw (p:List Rat):List Rat:=cl (gen (fun i=>((i+1:Nat):Int)*p.getD (i+1) 0) (p.length - 1))
theorem W4 {l:List Rat} {i:Nat} (h:l.length≤i):l.getD i 0=0:=by
  rw [yD,yG h];rfl
def co (f g:Nat→Rat) (k:Nat):Nat→Rat
  |0=>0
  |n+1=>co f g k n+f n*g (k - n)
def C (f g:Nat→Rat) (k:Nat):Rat:=co f g k (k+1)
theorem zgr {f g f' g':Nat→Rat} {k:Nat} (h:∀i,f i=f' i) (h':∀i,g i=g' i):∀n,co f g k n=co f' g' k n
  |0=>rfl
  |n+1=>by simp only [co];rw [zgr h h' n,h,h']
theorem Kf {f g f' g':Nat→Rat} (k:Nat) (h:∀i,f i=f' i) (h':∀i,g i=g' i):C f g k=C f' g' k:=zgr h h' _
theorem zh8 (p q:List Rat) (k lo a:Nat):∀b,cv p q k lo (a+b)=cv p q k lo a+cv p q k (lo+a) b
  |0=>by
    show cv p q k lo a=cv p q k lo a+0
    grind
  |b+1=>by
    show cv p q k lo (a+b)+p.getD (lo+(a+b)) 0*q.getD (k - (lo+(a+b))) 0=cv p q k lo a+(cv p q k (lo+a) b+p.getD (lo+a+b) 0*q.getD (k - (lo+a+b)) 0)
    rw [zh8 p q k lo a b,Nat.add_assoc lo a b]
    grind
theorem Kg {p q:List Rat} {k lo:Nat}:∀{n},(∀j,lo≤j→j<lo+n→p.getD j 0*q.getD (k - j) 0=0)→cv p q k lo n=0
  |0,_=>rfl
  |n+1,h=>by
    show cv p q k lo n+p.getD (lo+n) 0*q.getD (k - (lo+n)) 0=0
    rw [Kg fun j h1 h2=>h j h1 Oo,h (lo+n) Oo Oo]
    grind
theorem zc0 (p q:List Rat) (k:Nat):∀n,cv p q k 0 n=co (p.getD · 0) (q.getD · 0) k n
  |0=>rfl
  |n+1=>by
    show cv p q k 0 n+p.getD (0+n) 0*q.getD (k - (0+n)) 0=_
    rw [zc0 p q k n,Nat.zero_add]
    rfl
theorem zpV (p q:List Rat) (k:Nat):cv p q k (k+1 - q.length) (min k (p.length - 1)+1 - (k+1 - q.length))=C (p.getD · 0) (q.getD · 0) k:=by
  show _=co _ _ k (k+1)
  rw [← zc0]
  by_cases hp:p.length=0
  · have hz : ∀ lo n, cv p q k lo n = 0 := fun lo n => Kg fun j _ _ => by rw [W4 (l := p) Oo]; grind
    rw [hz,hz]
  · generalize hlo : k + 1 - q.length = lo
    generalize hn:min k (p.length - 1)+1 - lo=n
    have h1:cv p q k 0 lo=0:=Kg fun j _ hj=>by rw [W4 (l:=q) (i:=k - j) Oo];grind
    by_cases hle:lo+n≤k+1
    · have e : k + 1 = lo + (n + (k + 1 - (lo + n))) := by omega
      rw [e,zh8 p q k 0 lo,zh8 p q k (0+lo) n,h1,Nat.zero_add]
      have h2:cv p q k (lo+n) (k+1 - (lo+n))=0:=Kg fun j h2 h3=>by rw [W4 (l:=p) (i:=j) Oo];grind
      rw [h2]
      grind
    · exfalso;omega
theorem zm9 {p q:List Rat} {k:Nat} (h:p.length+q.length≤k+1):C (p.getD · 0) (q.getD · 0) k=0:=by
  show co _ _ k (k+1)=0
  rw [← zc0]
  exact Kg fun j _ hj=>by
    by_cases hp:j<p.length
    · rw [W4 (l:=q) (i:=k - j) Oo];grind
    · rw [W4 (l:=p) (i:=j) Oo];grind
def mc (p q:List Rat):List Rat:=gen (fun k=>C (p.getD · 0) (q.getD · 0) k) (p.length+q.length - 1)
theorem zsC (p q:List Rat) (k:Nat):(mc p q).getD k 0=C (p.getD · 0) (q.getD · 0) k:=by
  unfold mc
  rw [VV]
  split
  · rfl
  · exact (zm9 Oo).symm
theorem zna (p q:List Rat) (k:Nat):(zh7 p q).getD k 0=C (p.getD · 0) (q.getD · 0) k:=by
  unfold zh7
  split
  · rename_i h
    have:C (p.getD · 0) (q.getD · 0) k=0:=by
      show co _ _ k (k+1)=0
      rw [← zc0]
      refine Kg fun j _ _=> ?_
      rcases h with rfl|rfl
      · simp
      · simp
    rw [this];rfl
  · rw [Zf, VV]
    split
    · exact zpV p q k
    · exact (zm9 Oo).symm
theorem Zx (p q:List Rat) (k:Nat):(mul p q).getD k 0=C (p.getD · 0) (q.getD · 0) k:=by
  unfold mul
  rw [zna]
  exact Kf k (Zf p) (Zf q)
theorem vW (l:List Rat):cl (cl l)=cl l:=zh6 (Zf l)
theorem Q5 (p q:List Rat):cl (mul p q)=mul p q:=by
  unfold mul zh7
  split
  · rfl
  · exact vW _
theorem znb (p q:List Rat):cl (mc p q)=mul p q:=by
  rw [← Q5]
  exact zh6 fun i=>by rw [zsC,Zx]
theorem VE (p q:List Rat) (k:Nat):(add p q).getD k 0=p.getD k 0+q.getD k 0:=by
  unfold add
  rw [Zf,VV]
  split
  · rfl
  · rw [W4 (l:=p) Oo,W4 (l:=q) Oo];grind
theorem Wm (p q:List Rat) (k:Nat):(sub p q).getD k 0=p.getD k 0 - q.getD k 0:=by
  unfold sub
  rw [Zf,VV]
  split
  · rfl
  · rw [W4 (l:=p) Oo,W4 (l:=q) Oo];grind
theorem Kh (p q:List Rat):cl (add p q)=add p q:=vW _
theorem zeU (p q:List Rat):cl (sub p q)=sub p q:=vW _
theorem Qt (p:List Rat):cl (vw p)=vw p:=vW _
theorem ZK {p q:List Rat} (hp:cl p=p) (hq:cl q=q) (h:∀i,p.getD i 0=q.getD i 0):p=q:=by
  rw [← hp,←hq];exact zh6 h
theorem zgs (f g:Nat→Rat) (k:Nat):∀n,co f g k (n+1)=f 0*g k+co (fun i=>f (i+1)) (fun i=>g i) (k - 1) n
  |0=>by simp [co];grind
  |n+1=>by
    show co f g k (n+1)+f (n+1)*g (k - (n+1))=f 0*g k+(co (fun i=>f (i+1)) (fun i=>g i) (k - 1) n+f (n+1)*g (k - 1 - n))
    rw [zgs f g k n,show k - (n+1)=k - 1 - n by omega]
    grind
theorem zbb (f g:Nat→Rat):C f g 0=f 0*g 0:=by simp [C,co];grind
theorem zbc (f g:Nat→Rat) (k:Nat):C f g (k+1)=f 0*g (k+1)+C (fun i=>f (i+1)) g k:=zgs f g (k+1) (k+1)
theorem zsD (f g:Nat→Rat) (k:Nat):C f g (k+1)=C f (fun i=>g (i+1)) k+f (k+1)*g 0:=by
  show co f g (k+1) (k+1)+f (k+1)*g (k+1 - (k+1))=co f (fun i=>g (i+1)) k (k+1)+f (k+1)*g 0
  rw [Nat.sub_self]
  have:∀n,n≤k+1→co f g (k+1) n=co f (fun i=>g (i+1)) k n:=by
    intro n
    induction n with
    |zero=>intro _;rfl
    |succ n ih=>intro h;simp only [co];rw [ih Oo,show k+1 - n=k - n+1 by omega]
  rw [this (k+1) (yF _)]
theorem znc (f g:Nat→Rat):∀k,C f g k=C g f k:=by
  intro k
  induction k generalizing f g with
  |zero=>rw [zbb,zbb];grind
  |succ k ih=>rw [zbc,zsD g f,ih];grind
theorem zrx (f f' g:Nat→Rat) (k:Nat):C (fun i=>f i+f' i) g k=C f g k+C f' g k:=by
  have:∀n,co (fun i=>f i+f' i) g k n=co f g k n+co f' g k n:=by
    intro n
    induction n with
    |zero=>simp [co];grind
    |succ n ih=>simp only [co];rw [ih];grind
  exact this _
theorem zd0 (p q:List Rat):mul p q=mul q p:=ZK (Q5 _ _) (Q5 _ _) fun i=>by rw [Zx,Zx,znc]
theorem zeV {x:Rat}:∀{l:List Rat},(∀i,l.getD i 0=0)→ev x l=0
  |[],_=>rfl
  |a :: l,h=>by
    have h0:a=0:=h 0
    show ev x l*x+a=0
    rw [zeV fun i=>h (i+1),h0];grind
theorem zeW {x:Rat}:∀{l m:List Rat},(∀i,l.getD i 0=m.getD i 0)→ev x l=ev x m
  |[],m,h=>(zeV fun i=>(h i).symm).symm
  |a :: l,[],h=>zeV h
  |a :: l,b :: m,h=>by
    have h0:a=b:=h 0
    show ev x l*x+a=ev x m*x+b
    rw [zeW (l:=l) (m:=m) fun i=>h (i+1),h0]
theorem KZ (x:Rat) (l:List Rat):ev x (cl l)=ev x l:=zeW (Zf l)
def zbL:List Rat→List Rat→List Rat
  |[],q=>q
  |p,[]=>p
  |a :: p,b :: q=>(a+b) :: zbL p q
theorem zaA:∀(p q:List Rat) (i:Nat),(zbL p q).getD i 0=p.getD i 0+q.getD i 0
  |[],q,i=>by simp [zbL];grind
  |a :: p,[],i=>by simp [zbL];grind
  |a :: p,b :: q,0=>rfl
  |a :: p,b :: q,i+1=>zaA p q i
theorem zeX (x:Rat):∀p q:List Rat,ev x (zbL p q)=ev x p+ev x q
  |[],q=>by simp [zbL,ev];grind
  |a :: p,[]=>by simp [zbL,ev];grind
  |a :: p,b :: q=>by
    show ev x (zbL p q)*x+(a+b)=(ev x p*x+a)+(ev x q*x+b)
    rw [zeX x p q];grind
theorem Zq (x:Rat) (p q:List Rat):ev x (add p q)=ev x p+ev x q:=by
  rw [← zeX];exact zeW fun i=>by rw [VE,zaA]
theorem zgt (x a:Rat):∀q:List Rat,ev x (q.map (a* ·))=a*ev x q
  |[]=>by simp [ev]
  |b :: q=>by
    show ev x (q.map (a* ·))*x+a*b=a*(ev x q*x+b)
    rw [zgt x a q];grind
theorem zjT (a:Rat) (q:List Rat) (i:Nat):(q.map (a* ·)).getD i 0=a*q.getD i 0:=by
  by_cases h:i<q.length
  · rw [yD,yD,List.getElem?_map,yE h];rfl
  · rw [W4 (by rw [yN];omega),W4 Oo];grind
def mL:List Rat→List Rat→List Rat
  |[],_=>[]
  |a :: p,q=>zbL (q.map (a* ·)) (0 :: mL p q)
theorem zry (x:Rat) (q:List Rat):∀p:List Rat,ev x (mL p q)=ev x p*ev x q
  |[]=>by simp [mL,ev]
  |a :: p=>by
    show ev x (zbL (q.map (a* ·)) (0 :: mL p q))=(ev x p*x+a)*ev x q
    rw [zeX,zgt]
    show a*ev x q+(ev x (mL p q)*x+0)=_
    rw [zry x q p];grind
theorem zuh (q:List Rat) (k:Nat):C (([]:List Rat).getD · 0) (q.getD · 0) k=0:=by
  show co _ _ k (k+1)=0
  rw [← zc0]
  exact Kg fun j _ _=>by rw [W4 (l:=[]) (yO _)];grind
theorem znd (q:List Rat):∀(p:List Rat) (k:Nat),(mL p q).getD k 0=C (p.getD · 0) (q.getD · 0) k
  |[],k=>by
    have:C ([].getD · 0) (q.getD · 0) k=0:=zuh q k
    rw [this];rfl
  |a :: p,0=>by
    show (zbL (q.map (a* ·)) (0 :: mL p q)).getD 0 0=_
    rw [zaA,zjT,zbb]
    show a*q.getD 0 0+0=a*q.getD 0 0
    grind
  |a :: p,k+1=>by
    show (zbL (q.map (a* ·)) (0 :: mL p q)).getD (k+1) 0=_
    rw [zaA,zjT,zbc]
    show a*q.getD (k+1) 0+(mL p q).getD k 0=a*q.getD (k+1) 0+C (p.getD · 0) (q.getD · 0) k
    rw [znd q p k]
theorem qK (x:Rat) (p q:List Rat):ev x (mul p q)=ev x p*ev x q:=by
  rw [← zry];exact zeW fun i=>by rw [Zx,znd]
theorem Z4 (p:List Rat) (i:Nat):(vw p).getD i 0=((i+1:Nat):Int)*p.getD (i+1) 0:=by
  unfold vw
  rw [Zf,VV]
  split
  · rfl
  · rw [W4 (l:=p) Oo];grind
def D (f:Nat→Rat) (i:Nat):Rat:=((i+1:Nat):Int)*f (i+1)
theorem zc1 (i:Nat):(((i+1:Nat):Int):Rat)=((i:Int):Rat)+1:=by
  rw [show ((i+1:Nat):Int)=(i:Int)+1 by omega,Rat.intCast_add];rfl
theorem C_D:∀(k:Nat) (f g:Nat→Rat),(((k+1:Nat):Int):Rat)*C f g (k+1)=C (D f) g k+C f (D g) k
  |0,f,g=>by
    rw [zbc,zbb,zbb,zbb]
    simp only [D]
    rw [zc1]
    simp
    grind
  |k+1,f,g=>by
    have ih:=C_D k (fun i=>f (i+1)) g
    rw [zbc f g (k+1),zbc f (D g) k]
    have e:C (D f) g (k+1)=C (fun i=>f (i+1)) g (k+1)+C (fun i=>((i:Int):Rat)*f (i+1)) g (k+1):=by
      rw [← zrx];exact Kf _ (fun i=>by simp only [D];rw [zc1];grind) (fun _=>rfl)
    have e2:C (fun i=>((i:Int):Rat)*f (i+1)) g (k+1)=C (D fun i=>f (i+1)) g k:=by
      rw [zbc]
      have:((0:Nat):Int)*f (0+1)*g (k+1)=0:=by simp
      rw [this]
      have e3:C (fun i=>(((i+1:Nat):Int):Rat)*f (i+1+1)) g k=C (D fun i=>f (i+1)) g k:=rfl
      rw [e3];grind
    rw [e,e2]
    simp only [D] at ih ⊢
    rw [zc1 (k+1)]
    grind
theorem Ki (p q:List Rat):vw (mul p q)=add (mul (vw p) q) (mul p (vw q)):=ZK (Qt _) (Kh _ _) fun i=>by
  rw [Z4,VE,Zx,Zx,Zx,C_D]
  congr 1
  · exact Kf i (fun j=>(Z4 p j).symm) (fun _=>rfl)
  · exact Kf i (fun _=>rfl) (fun j=>(Z4 q j).symm)
end Po
namespace Po
open Big
def mono (s:Nat) (k:Rat):List Rat:=gen (fun i=>if i=s then k else 0) (s+1)
def lead (l:List Rat):Rat:=l.getD (l.length - 1) 0
def dt (q r:List Rat):List Rat:=mono (r.length - q.length) (lead r / lead q)
def dv (q:List Rat):Nat→List Rat→List Rat→List Rat×List Rat
  |0,a,r=>(a,r)
  |n+1,a,r=>if r.length<q.length then (a,r) else dv q n (add a (dt q r)) (sub r (mul (dt q r) q))
theorem JV (s:Nat) (k:Rat) (i:Nat):(mono s k).getD i 0=if i=s then k else 0:=by
  unfold mono
  rw [VV]
  by_cases h:i=s
  · rw [if_pos Oo]
  · rw [if_neg h]
    split
    · rfl
    · rfl
theorem zeY (s:Nat) (k:Rat) (g:Nat→Rat) (i:Nat):∀n,co (fun j=>if j=s then k else 0) g i n=if s<n then k*g (i - s) else 0
  |0=>by simp [co]
  |n+1=>by
    simp only [co]
    rw [zeY s k g i n]
    by_cases h:s<n
    · rw [if_pos h,if_neg Oo,if_pos Oo];grind
    · rw [if_neg h]
      by_cases h1:n=s
      · subst h1;rw [if_pos rfl,if_pos Oo];grind
      · rw [if_neg h1,if_neg Oo];grind
theorem zh9 (s:Nat) (k:Rat) (q:List Rat) (i:Nat):C ((mono s k).getD · 0) (q.getD · 0) i=if s≤i then k*q.getD (i - s) 0 else 0:=by
  rw [Kf i (JV s k) (fun _=>rfl)]
  show co _ _ i (i+1)=_
  rw [zeY]
  by_cases h:s≤i
  · rw [if_pos h,if_pos Oo]
  · rw [if_neg h,if_neg Oo]
theorem zrz {l:List Rat} {m:Nat} (h:∀i,m≤i→l.getD i 0=0):(cl l).length≤m:=by
  refine yaa fun hlt=> ?_
  have hne:cl l≠[]:=fun e=>by rw [e] at hlt;exact hlt (yO _)
  have h1:=zeT hne
  rw [Zf] at h1
  exact h1 (h _ Oo)
theorem QH {q:List Rat} (hq:cl q=q) (h:q≠[]):lead q≠0:=by
  have:=zeT (l:=q) (by rw [hq];exact h)
  rw [hq] at this
  exact this
theorem zbY {q r:List Rat} (hq:cl q=q) (h:q≠[]) (hl:q.length≤r.length):(sub r (mul (dt q r) q)).length<r.length:=by
  have hql:0<q.length:=yab.2 h
  have:(sub r (mul (dt q r) q)).length≤r.length - 1:=by
    rw [← zeU]
    refine zrz fun i hi=> ?_
    rw [Wm,Zx]
    unfold dt
    rw [zh9]
    by_cases h1:i=r.length - 1
    · subst h1
      rw [if_pos Oo,show r.length - 1 - (r.length - q.length)=q.length - 1 by omega]
      show lead r - lead r / lead q*lead q=0
      rw [yQ (QH hq h)]
      grind
    · rw [W4 (l := r) Oo]
      split
      · rw [W4 (l:=q) Oo];grind
      · grind
  omega
theorem zbZ {q:List Rat} (hq:cl q=q) (h:q≠[]):∀(n:Nat) (a r:List Rat),r.length≤n→cl r=r→cl a=a→
    (dv q n a r).2.length<q.length∧add (mul (dv q n a r).1 q) (dv q n a r).2=add (mul a q) r∧cl (dv q n a r).2=(dv q n a r).2∧cl (dv q n a r).1=(dv q n a r).1
  |0,a,r,hn,hr,ha=>⟨by have:=yab.2 h;show r.length<q.length;omega,rfl,hr,ha⟩
  |n+1,a,r,hn,hr,ha=>by
    unfold dv
    split
    · rename_i h1;exact ⟨h1,rfl,hr,ha⟩
    · rename_i h1
      have hlt:=zbY (r:=r) hq h Oo
      obtain ⟨g1,g2,g3,g4⟩:=zbZ hq h n (add a (dt q r)) (sub r (mul (dt q r) q)) Oo (zeU _ _) (Kh _ _)
      refine ⟨g1,g2.trans ?_,g3,g4⟩
      refine ZK (Kh _ _) (Kh _ _) fun i=> ?_
      rw [VE,VE,Zx,Zx,Wm,Zx]
      have e:C ((add a (dt q r)).getD · 0) (q.getD · 0) i=C (a.getD · 0) (q.getD · 0) i+C ((dt q r).getD · 0) (q.getD · 0) i:=by
        rw [← zrx];exact Kf i (VE a _) (fun _=>rfl)
      rw [e]
      grind
def zeZ (p q:List Rat):List Rat×List Rat:=dv (cl q) (cl p).length [] (cl p)
theorem zaB (q:List Rat):mul [] q=[]:=by
  unfold mul zh7
  rw [if_pos (.inl rfl)]
theorem add_nil (r:List Rat) (h:cl r=r):add [] r=r:=ZK (Kh _ _) h fun i=>by
  rw [VE];simp;grind
theorem zd1 {p q:List Rat} (h:cl q≠[]):(zeZ p q).2.length<(cl q).length∧add (mul (zeZ p q).1 (cl q)) (zeZ p q).2=cl p:=by
  obtain ⟨h1,h2,-,-⟩:=zbZ (vW q) h (cl p).length [] (cl p) (yF _) (vW p) rfl
  exact ⟨h1,h2.trans (by rw [zaB,add_nil _ (vW p)])⟩
def bd (K:Nat) (l:List Rat):Prop:=∀i,hq (l.getD i 0)≤K
theorem zaC {K:Nat} {l:List Rat} (h:bd K l):bd K (cl l):=fun i=>by rw [Zf];exact h i
theorem jM {K L:Nat} {l:List Rat} (h:bd K l) (hk:K≤L):bd L l:=fun i=>yJ (h i) hk
theorem zne {K L:Nat} {p q:List Rat} (h1:bd K p) (h2:bd L q):bd (K+L+1) (sub p q):=fun i=>by
  rw [Wm]
  have:=KO (p.getD i 0) (q.getD i 0)
  have:=h1 i
  have:=h2 i
  omega
theorem zjU {p q:List Rat} {s:Nat} {k0:Rat} (hp:∀i,p.getD i 0=if i=s then k0 else 0) (k lo:Nat):∀n,cv p q k lo n=if lo≤s∧s<lo+n then k0*q.getD (k - s) 0 else 0
  |0=>by rw [if_neg Oo];rfl
  |n+1=>by
    show cv p q k lo n+p.getD (lo+n) 0*q.getD (k - (lo+n)) 0=_
    rw [zjU hp k lo n,hp]
    by_cases h:lo+n=s
    · subst h;rw [if_neg Oo,if_pos rfl,if_pos Oo];grind
    · rw [if_neg h]
      by_cases h1:lo≤s∧s<lo+n
      · rw [if_pos h1,if_pos Oo];grind
      · rw [if_neg h1,if_neg Oo];grind
theorem zia {p q:List Rat} {s K L:Nat} {k0:Rat} (hp:∀i,p.getD i 0=if i=s then k0 else 0) (hk:hq k0≤K) (h2:bd L q) (k lo n:Nat):hq (cv p q k lo n)≤K+L:=by
  rw [zjU hp]
  split
  · have := jB k0 (q.getD (k - s) 0)
    have:=h2 (k - s)
    omega
  · rw [vN];have:=KP k0;omega
theorem zrA {K L:Nat} {x:Rat} (hx:hq x≤L):∀{l:List Rat},bd K l→hq (ev x l)≤1+l.length*(K+L+1)
  |[],_=>by show hq 0≤_;rw [vN];omega
  |a :: l,h=>by
    show hq (ev x l*x+a)≤_
    have e1:=QX (ev x l*x) a
    have e2:=jB (ev x l) x
    have e3:=zrA hx (l:=l) fun i=>h (i+1)
    have e4:hq a≤K:=h 0
    rw [yX,yT]
    omega
theorem VW {K:Nat} {l:List Rat} (h:bd K l):hq (lead l)≤K:=h _
theorem zjV {K L:Nat} {q r:List Rat} (hr:bd K r) (hq':bd L q):bd (K+L) (dt q r):=fun i=>by
  unfold dt
  rw [JV]
  split
  · by_cases h0 : lead q = 0
    · rw [h0, show lead r / 0 = 0 by rw [Rat.div_def, Rat.inv_zero, Rat.mul_zero], vN]
      have:=KP (lead r);have:=VW hr;omega
    · have := Qs (lead r) h0
      have:=VW hr
      have:=VW hq'
      omega
  · rw [vN];have:=KP (lead r);have:=VW hr;omega
theorem zk9 {K L:Nat} {q r:List Rat} (hr:bd K r) (hq':bd L q):bd (K+L+L) (mul (dt q r) q):=fun i=>by
  rw [Zx]
  unfold dt
  rw [zh9]
  have hd:=zjV hr hq' (r.length - q.length)
  unfold dt at hd
  rw [JV,if_pos rfl] at hd
  split
  · have := jB (lead r / lead q) (q.getD (i - (r.length - q.length)) 0)
    have:=hq' (i - (r.length - q.length))
    omega
  · rw [vN];have:=KP (lead r / lead q);omega
theorem vT (l:List (Option Rat)):(vals l).length=l.length:=by simp [vals]
theorem QE (l:List (Option Rat)) (i:Nat):(vals l).getD i 0=(l.getD i none).getD 0:=by
  unfold vals
  by_cases h:i<l.length
  · rw [yD,List.getElem?_map,yE h,yD,yE h];rfl
  · rw [W4 (by rw [yN];omega),yD,yG Oo];rfl
theorem zV (l:List Rat):vals (l.map some)=l:=by unfold vals;rw [List.map_map];exact List.map_id l
theorem zsE {l:List Rat} {i:Nat} (h:i<l.length):l.take i++[l.getD i 0]=l.take (i+1):=by
  rw [List.take_add_one,yD,yE h];rfl
theorem zla {l:List (Option Rat)} {i:Nat} (h:i<l.length):(vals l).take i++[(l.getD i none).getD 0]=(vals l).take (i+1):=by
  rw [← QE];exact zsE (by rw [vT];exact h)
theorem zsF {l:List Rat} {j:Nat} (h0:0<j) (h:l.getD (j - 1) 0=0):tn l j=tn l (j - 1):=by
  obtain ⟨k,rfl⟩:∃k,j=k+1:=⟨j - 1,Oo⟩
  simp only [yad] at h ⊢
  simp only [tn];rw [if_pos h]
theorem zui {l:List Rat} {j:Nat} (h:¬(0<j∧l.getD (j - 1) 0=0)):tn l j=j:=by
  cases j with
  |zero=>rfl
  |succ k=>simp only [tn];rw [if_neg fun e=>h ⟨Oo,by simpa using e⟩]
theorem zsG {l:List Rat} {j:Nat} (h0:0<j) (h:Zv (l.getD ((j:Int) - 1).toNat 0)=0):l.getD (j - 1) 0=0:=by
  rw [show ((j:Int) - 1).toNat=j - 1 by omega] at h
  exact zcE.1 h
theorem zuj {l:List Rat} {j:Nat} (h:¬((0:Int)<(j:Int)∧Zv (l.getD ((j:Int) - 1).toNat 0)=0)):¬(0<j∧l.getD (j - 1) 0=0):=fun k=>h ⟨Oo,by rw [show ((j:Int) - 1).toNat=j - 1 by omega,zcE];exact k.2⟩
theorem zpW {l:List Rat} {n j:Nat} (hn:l.length=n) (h:tn l n=tn l j) (hj:tn l j=j):cl l=l.take j:=by unfold cl;rw [hn,h,hj]
theorem zaD {A:List (Option Rat)} {g:Nat→Rat} {i:Nat} {x:Rat} (h:∀j,j<i→A.getD j none=some (g j)) (hi:i<A.length) (hx:x=g i):∀j,j<i+1→(A.set i (some x)).getD j none=some (g j):=fun j hj=>by
  rw [yD,List.getElem?_set]
  by_cases e:i=j
  · subst e;rw [if_pos rfl,if_pos hi,hx];rfl
  · rw [if_neg e,←yD];exact h j Oo
theorem zaE {A:List (Option Rat)} {g:Nat→Rat} {n:Nat} (hn:A.length=n) (h:∀j,j<n→A.getD j none=some (g j)):vals A=gen g n:=by
  refine List.ext_getElem? fun i=> ?_
  by_cases hi:i<n
  · have e : (vals A).getD i 0 = (gen g n).getD i 0 := by rw [QE, h i hi, VV, if_pos hi]; rfl
    rw [yD,yD,yE (by rw [vT];omega),yE (by rw [ZS];omega)] at e
    rw [yE (by rw [vT];omega),yE (by rw [ZS];omega)]
    exact congrArg some e
  · rw [yG (by rw [vT];omega),yG (by rw [ZS];omega)]
theorem Wn {f g:Nat→Rat}:∀{n},(∀i,i<n→f i=g i)→gen f n=gen g n
  |0,_=>rfl
  |n+1,h=>by simp only [gen];rw [Wn fun i hi=>h i Oo,h n Oo]
theorem znf {A l m:List (Option Rat)} {n:Nat} (hm:n=max l.length m.length) (hn:A.length=n) (h:∀j,j<n→A.getD j none=some ((l.getD j none).getD 0+(m.getD j none).getD 0)):cl (vals A)=add (vals l) (vals m):=by
  unfold add
  rw [zaE hn h,vT,vT,←hm]
  exact congrArg cl (Wn fun i _=>by rw [QE,QE])
theorem zng {A l m:List (Option Rat)} {n:Nat} (hm:n=max l.length m.length) (hn:A.length=n) (h:∀j,j<n→A.getD j none=some ((l.getD j none).getD 0 - (m.getD j none).getD 0)):cl (vals A)=sub (vals l) (vals m):=by
  unfold sub
  rw [zaE hn h,vT,vT,←hm]
  exact congrArg cl (Wn fun i _=>by rw [QE,QE])
theorem zsH {l:List (Option Rat)} {i:Nat} (h:l.length≤i):(l.getD i none).getD 0=((0:Int):Rat):=by
  rw [yD,yG h];rfl
theorem zpX (P Q:List Rat) {k lo i:Nat} (h:lo≤i):cv P Q k lo (i - lo)+P.getD i 0*Q.getD (k - i) 0=cv P Q k lo (i+1 - lo):=by
  rw [show i+1 - lo=i - lo+1 by omega]
  show _=cv P Q k lo (i - lo)+P.getD (lo+(i - lo)) 0*Q.getD (k - (lo+(i - lo))) 0
  rw [show lo+(i - lo)=i by omega]
theorem vI (l:List Rat):(cl l).length≤l.length:=by rw [zeS];exact zm8 _ _
def pc (P Q:List Rat) (k:Nat):Rat:=cv P Q k (k+1 - Q.length) (min k (P.length - 1)+1 - (k+1 - Q.length))
theorem zsI {P Q:List Rat} {k i:Nat} (h1:k+1 - Q.length≤i) (h2:¬((i:Int)≤min (k:Int) ((P.length:Int) - 1))) (h3:i≤max (k+1 - Q.length) (min k (P.length - 1)+1)) (hp:0<P.length):cv P Q k (k+1 - Q.length) (i - (k+1 - Q.length))=pc P Q k:=by
  unfold pc
  congr 1
  omega
theorem znh {A l m:List (Option Rat)} {P Q:List Rat} {n:Nat} (hP:P=cl (vals l)) (hQ:Q=cl (vals m)) (h0:¬(P.length=0∨Q.length=0)) (hn':n=P.length+Q.length - 1) (hn:A.length=n) (h:∀j,j<n→A.getD j none=some (pc P Q j)):cl (vals A)=mul (vals l) (vals m):=by
  unfold mul zh7
  rw [← hP,←hQ,if_neg (fun k=>h0 (k.imp (fun e=>by rw [e];rfl) (fun e=>by rw [e];rfl))),zaE hn h,hn']
  rfl
theorem zni {l m:List (Option Rat)} {P Q:List Rat} (hP:P=cl (vals l)) (hQ:Q=cl (vals m)) (h0:P.length=0∨Q.length=0):mul (vals l) (vals m)=[]:=by
  unfold mul zh7
  rw [← hP,←hQ,if_pos (h0.imp yR.1 yR.1)]
theorem zpY {x:Rat} {l:List Rat} {i:Nat} (h0:0<i) (h:i≤l.length):ev x (l.drop i)*x+l.getD (i - 1) 0=ev x (l.drop (i - 1)):=by
  obtain ⟨j,rfl⟩:∃j,i=j+1:=⟨i - 1,Oo⟩
  rw [yad,List.drop_eq_getElem_cons (i:=j) Oo,yD,yE Oo]
  rfl
theorem zsJ {x:Rat} {l:List (Option Rat)} {n:Nat} (h:l.length=n):ev x ((vals l).drop n)=((0:Int):Rat):=by
  rw [List.drop_eq_nil_of_le (by rw [vT];omega)];rfl
def dg (l:List (Option Rat)) (i:Nat):Rat:=(((i+1:Nat):Int):Rat)*(l.getD (i+1) none).getD 0
theorem zpZ {l:List (Option Rat)} {i:Nat} (h:1≤i):gen (dg l) (i - 1)++[(((i:Nat):Int):Rat)*(l.getD i none).getD 0]=gen (dg l) (i+1 - 1):=by
  obtain ⟨j,rfl⟩:∃j,i=j+1:=⟨i - 1,Oo⟩
  rfl
theorem zsK {l:List (Option Rat)} {n k:Nat} (h:l.length=n) (hk:k=n - 1):cl (vals ((gen (dg l) k).map some))=vw (vals l):=by
  rw [zV]
  unfold vw
  rw [vT,h,←hk]
  exact congrArg cl (Wn fun i _=>by rw [QE];rfl)
theorem znj {l:List Rat} {i j:Nat} (h:i<j):(l.take j).getD i 0=l.getD i 0:=by
  rw [yD,List.getElem?_take,if_pos h,←yD]
def scl (l:List Rat) (x:Rat):List Rat:=cl (gen (fun i=>l.getD i 0*x) l.length)
theorem Wo (l:List Rat) (x:Rat) (i:Nat):(scl l x).getD i 0=l.getD i 0*x:=by
  unfold scl
  rw [Zf,VV]
  split
  · rfl
  · rw [W4 Oo];grind
theorem zb0 (l:List Rat) (x:Rat):scl l x=mul l [x]:=ZK (vW _) (Q5 _ _) fun i=>by
  rw [Wo,Zx,znc]
  have e:∀j,([x]:List Rat).getD j 0=if j=0 then x else 0:=fun j=>by cases j <;> simp
  rw [Kf i e (fun _=>rfl)]
  show _=co _ _ i (i+1)
  rw [zeY,if_pos Oo]
  exact Rat.mul_comm _ _
theorem zp0 (p q:List Rat):add p (scl q (((-1:Int):Int):Rat))=sub p q:=ZK (Kh _ _) (zeU _ _) fun i=>by
  rw [VE,Wo,Wm]
  grind
theorem Kx (l:List Rat) (i:Nat):((l.map some).getD i none).getD 0=l.getD i 0:=by rw [← QE,zV]
def dok (Q:List Rat):Nat→List Rat→List Rat→Prop
  |0,_,_=>True
  |n+1,a,r=>(bd 60000000000 a∧bd 60000000000 r)∧(Q.length≤r.length→dok Q n (add a (dt Q r)) (sub r (mul (dt Q r) Q)))
theorem zsL {Q a r:List Rat} {f:Nat} (h:Q.length≤r.length) (hf:0<f):dv Q f a r=dv Q (f - 1) (add a (dt Q r)) (sub r (mul (dt Q r) Q)):=by
  obtain ⟨n,rfl⟩:∃n,f=n+1:=⟨f - 1,Oo⟩
  rw [yad]
  conv=>lhs;unfold dv
  rw [if_neg Oo]
theorem zuk {Q a r:List Rat} {f:Nat} (h:r.length<Q.length):dv Q f a r=(a,r):=by
  cases f with
  |zero=>rfl
  |succ n=>unfold dv;rw [if_pos h]
theorem zic {Q a r:List Rat} {f:Nat} (h:dok Q f a r) (hf:0<f):bd 60000000000 a∧bd 60000000000 r:=by
  obtain ⟨n,rfl⟩:∃n,f=n+1:=⟨f - 1,Oo⟩
  exact h.1
theorem zp1 {Q a r:List Rat} {f:Nat} (h:dok Q f a r) (hl:Q.length≤r.length) (hf:0<f):dok Q (f - 1) (add a (dt Q r)) (sub r (mul (dt Q r) Q)):=by
  obtain ⟨n,rfl⟩:∃n,f=n+1:=⟨f - 1,Oo⟩
  exact h.2 hl
theorem zlb {A:List (Option Rat)} {s:Nat} {k:Rat} (hn:A.length=s+1) (h:∀j,j<s+1→A.getD j none=some ((0:Int):Rat)):vals (A.set s (some k))=mono s k:=by
  unfold mono
  refine zaE (by rw [yM];exact hn) fun j hj=> ?_
  rw [yD,List.getElem?_set]
  by_cases e:s=j
  · subst e;rw [if_pos rfl,if_pos Oo,if_pos rfl];rfl
  · rw [if_neg e,←yD,h j hj,if_neg (fun k=>e k.symm)];rfl
theorem zjW (p q:List Rat):(add p q).length≤max p.length q.length:=by
  unfold add
  exact yJ (vI _) (by rw [ZS];exact yF _)
theorem zid (q r:List Rat):(dt q r).length=r.length - q.length+1:=by
  unfold dt mono;rw [ZS]
def dq (p q:List Rat):List Rat:=if (cl q).length=0 then [] else (zeZ p q).1
def dr (p q:List Rat):List Rat:=if (cl q).length=0 then [] else (zeZ p q).2
def dc (q:List Rat):Int:=if (cl q).length=0 then 14 else 0
theorem znk {Q r:List Rat} (hr:bd 60000000000 r) (hQ:bd 60000000000 Q) (k lo n:Nat):hq (cv (cl (dt Q r)) Q k lo n)≤200000000000:=by
  refine yJ (zia (s:=r.length - Q.length) (k0:=lead r / lead Q) (K:=120000000000) (L:=60000000000) (fun i=>by rw [Zf];exact JV _ _ i) ?_ hQ k lo n) Od
  have h:=zjV hr hQ (r.length - Q.length)
  unfold dt at h
  rw [JV,if_pos rfl] at h
  exact h
def mo (l:List Rat):List Rat:=if l.length=0 then [] else mul l [((1:Int):Rat) / lead l]
def ge:Nat→List Rat→List Rat→List Rat
  |0,p,_=>p
  |n+1,p,q=>if q.length=0 then p else ge n q (mo (dr p q))
def gcd (p q:List Rat):List Rat:=ge (cl q).length (mo (cl p)) (mo (cl q))
def ZL (p:List Rat):List Rat:=if (cl p).length=0 then [] else mo (dq (cl p) (gcd (cl p) (vw (cl p))))
def st:Nat→List Rat→List Rat→List (List Rat)
  |0,_,_=>[]
  |n+1,a,b=>if b.length=0 then [] else b :: st n b (mul (dr a b) [(((-1:Int)):Rat)])
def vH (p:List Rat):List (List Rat):=if (ZL p).length=0 then [] else ZL p :: st (ZL p).length (ZL p) (vw (ZL p))
def va (x:Rat):List (List Rat)→Int→Int→Int
  |[],n,_=>n
  |p :: l,n,s=>if Zv (ev x p)=0 then va x l n s else va x l (if s*Zv (ev x p)<0 then n+1 else n) (Zv (ev x p))
def vr (l:List (List Rat)) (x:Rat):Int:=va x l 0 0
def bt (l:List (List Rat)) (a b:Rat):Int:=vr l a - vr l b
def bm (P:List Rat):Nat→Rat
  |0=>((0:Int):Rat)
  |i+1=>if bm P i<jd (P.getD i 0 / lead P) then jd (P.getD i 0 / lead P) else bm P i
def bound (P:List Rat):Rat:=bm P (P.length - 1)+((1:Int):Rat)
def mid (a b:Rat):Rat:=(a+b)*yS 1 2
def K0 (l:List (List Rat)):Nat→Rat→Rat→List (Rat×Rat)
  |0,_,_=>[]
  |n+1,a,b=>if bt l a b=0 then [] else if bt l a b=1 then [(a,b)] else K0 l n a (mid a b)++K0 l n (mid a b) b
def dgo (p q:List Rat):Prop:=bd 60000000000 q∧dok (cl q) ((cl p).length+1) [] (cl p)
def gok:Nat→List Rat→List Rat→Prop
  |0,_,_=>True
  |n+1,p,q=>q.length≠0→dgo p q∧bd 60000000000 (dr p q)∧gok n q (mo (dr p q))
def zul (p q:List Rat):Prop:=bd 60000000000 p∧bd 60000000000 q∧gok (cl q).length (mo (cl p)) (mo (cl q))
def zsM (p:List Rat):Prop:=bd 60000000000 p∧bd 60000000000 (vw (cl p))∧((cl p).length≠0→zul (cl p) (vw (cl p))∧dgo (cl p) (gcd (cl p) (vw (cl p)))∧bd 60000000000 (dq (cl p) (gcd (cl p) (vw (cl p)))))
def zlc:Nat→List Rat→List Rat→Prop
  |0,_,_=>True
  |n+1,a,b=>b.length≠0→bd 60000000000 b∧dgo a b∧bd 60000000000 (dr a b)∧zlc n b (mul (dr a b) [(((-1:Int)):Rat)])
def sok (p:List Rat):Prop:=zsM p∧bd 60000000000 (ZL p)∧bd 60000000000 (vw (ZL p))∧zlc (ZL p).length (ZL p) (vw (ZL p))
def vok (l:List (List Rat)) (x:Rat):Prop:=∀p,p∈l→p.length≤900∧bd 60000000000 p∧∀i,hq (ev x (p.drop i))≤200000000000
theorem Kj (p q:List Rat):(mul p q).length≤p.length+q.length - 1:=by
  rw [← znb]
  unfold mc
  exact yJ (vI _) (by rw [ZS];exact yF _)
theorem Vu (l:List Rat):(mo l).length≤l.length:=by
  unfold mo
  split
  · exact yO _
  · exact yJ (Kj _ _) (by show l.length+1 - 1≤_;omega)
theorem Vd (l:List Rat):cl (mo l)=mo l:=by
  unfold mo
  split
  · rfl
  · exact Q5 _ _
theorem zgu (p q:List Rat):cl (dr p q)=dr p q:=by
  unfold dr
  split
  · rfl
  · rename_i h
    have h':cl q≠[]:=fun e=>h (by rw [e];rfl)
    obtain ⟨-,-,h3,h4⟩:=zbZ (vW q) h' (cl p).length [] (cl p) (yF _) (vW p) rfl
    first|exact h3|exact h4
theorem zgv (p q:List Rat):cl (dq p q)=dq p q:=by
  unfold dq
  split
  · rfl
  · rename_i h
    have h':cl q≠[]:=fun e=>h (by rw [e];rfl)
    obtain ⟨-,-,h3,h4⟩:=zbZ (vW q) h' (cl p).length [] (cl p) (yF _) (vW p) rfl
    first|exact h4|exact h3
theorem JB {p q:List Rat} (hq:cl q=q) (h:q.length≠0):(dr p q).length<q.length:=by
  have h':cl q≠[]:=fun e=>h (by rw [hq] at e;rw [e];rfl)
  have:=(zd1 (p:=p) h').1
  unfold dr
  rw [if_neg (by rw [hq];exact h)]
  rw [hq] at this
  exact this
theorem zc2 {n:Nat} {p q:List Rat} (h:q.length=0):ge n p q=p:=by
  cases n with
  |zero=>rfl
  |succ n=>exact if_pos h
theorem zsN {n:Nat} {p q:List Rat} (h:q.length≠0) (hn:q.length≤n):ge n p q=ge (n - 1) q (mo (dr p q)):=by
  obtain ⟨m,rfl⟩:∃m,n=m+1:=⟨n - 1,Oo⟩
  exact if_neg h
theorem zp2 {n:Nat} {p q:List Rat} (k:gok n p q) (h:q.length≠0) (hn:q.length≤n):dgo p q∧bd 60000000000 (dr p q)∧gok (n - 1) q (mo (dr p q)):=by
  obtain ⟨m,rfl⟩:∃m,n=m+1:=⟨n - 1,Oo⟩
  exact k h
theorem zp3 {n:Nat} {p q:List Rat} (hq:cl q=q) (h:q.length≠0) (hn:q.length≤n):(mo (dr p q)).length≤n - 1:=by
  have:=Vu (dr p q);have:=JB (p:=p) hq h;omega
theorem zc3 {n:Nat} {a b:List Rat} (h:b.length=0):st n a b=[]:=by
  cases n with
  |zero=>rfl
  |succ n=>exact if_pos h
theorem zie {n:Nat} {a b:List Rat} (h:b.length≠0) (hn:b.length≤n):st n a b=b :: st (n - 1) b (mul (dr a b) [(((-1:Int)):Rat)]):=by
  obtain ⟨m,rfl⟩:∃m,n=m+1:=⟨n - 1,Oo⟩
  exact if_neg h
theorem znl {n:Nat} {a b:List Rat} (k:zlc n a b) (h:b.length≠0) (hn:b.length≤n):bd 60000000000 b∧dgo a b∧bd 60000000000 (dr a b)∧zlc (n - 1) b (mul (dr a b) [(((-1:Int)):Rat)]):=by
  obtain ⟨m,rfl⟩:∃m,n=m+1:=⟨n - 1,Oo⟩
  exact k h
theorem zaF {n:Nat} {a b:List Rat} (hb:cl b=b) (h:b.length≠0) (hn:b.length≤n):(mul (dr a b) [(((-1:Int)):Rat)]).length≤n - 1:=by
  have:=Kj (dr a b) [(((-1:Int)):Rat)];have:=JB (p:=a) hb h
  simp only [yX,List.length_nil] at*
  omega
theorem Wp (l:List Rat):(vw l).length≤l.length - 1:=by
  unfold vw
  exact yJ (vI _) (by rw [ZS];exact yF _)
theorem znm {p q:List Rat} (hq1:∀j,j≠0→q.getD j 0=0) {k lo:Nat}:∀n,lo+n≤k+1→cv p q k lo n=if 0<n∧lo+n=k+1 then p.getD k 0*q.getD 0 0 else 0
  |0,_=>by rw [if_neg Oo];rfl
  |n+1,h=>by
    show cv p q k lo n+p.getD (lo+n) 0*q.getD (k - (lo+n)) 0=_
    rw [znm hq1 n Oo,if_neg Oo]
    by_cases e:k=lo+n
    · rw [if_pos Oo,e,Nat.sub_self];grind
    · rw [if_neg Oo,hq1 _ Oo];grind
theorem zd2 {p:List Rat} {x:Rat} {K L:Nat} (hp:bd K p) (hx:hq x≤L) (k lo n:Nat) (h:lo+n≤k+1):hq (cv p (cl [x]) k lo n)≤K+L:=by
  rw [znm (q:=cl [x]) (fun j hj=>by rw [Zf];obtain ⟨i,rfl⟩:∃i,j=i+1:=⟨j - 1,Oo⟩;rfl) n h,Zf]
  split
  · have := jB (p.getD k 0) x
    have:=hp k
    show hq (p.getD k 0*x)≤_
    omega
  · rw [vN];have:=KP x;omega
theorem znn {x:Rat} {L:Nat} (hx:hq x≤L):bd L [x]:=fun i=>by
  cases i with
  |zero=>exact hx
  |succ i=>show hq 0≤L;rw [vN];have:=KP x;omega
theorem zsO {l:List Rat} {K:Nat} (h:bd K l):hq (((1:Int):Rat) / lead l)≤1+K:=by
  by_cases h0:lead l=0
  · rw [h0,show ((1:Int):Rat) / 0=0 by rw [Rat.div_def,Rat.inv_zero,Rat.mul_zero],vN];omega
  · have := Qs ((1 : Int) : Rat) h0
    have:=VW h
    have:hq ((1:Int):Rat)=1:=Od
    omega
theorem zjX (P:List Rat) (i:Nat):(if bm P i<jd (P.getD i 0 / lead P) then jd (P.getD i 0 / lead P) else bm P i)=bm P (i+1):=rfl
theorem zjY {P:List Rat} {K:Nat} (h:bd K P) (h0:lead P≠0):∀i,hq (bm P i)≤K+K
  | 0 => by show hq ((0 : Int) : Rat) ≤ _; have := KP (lead P); have := VW h; have : hq ((0 : Int) : Rat) = 1 := by decide
            omega
  |i+1=>by
    unfold bm
    split
    · rw [zeK];have:=Qs (P.getD i 0) h0;have:=VW h;have:=h i;omega
    · exact zjY h h0 i
theorem ze0 {L:List (List Rat)} {x:Rat} {K M:Nat} (hx:hq x≤M) (h:∀p,p∈L→p.length≤10∧bd K p) (hk:K≤60000000000) (hb:1+10*(K+M+1)≤200000000000):vok L x:=fun p hp=>by
  obtain ⟨h1,h2⟩:=h p hp
  refine ⟨Oo,jM h2 hk,fun i=> ?_⟩
  refine yJ (zrA (K:=K) hx (l:=p.drop i) fun j=> ?_) (yJ (yaj (yL _ (by rw [List.length_drop];omega)) _) hb)
  have:(p.drop i).getD j 0=p.getD (i+j) 0:=by rw [yD,List.getElem?_drop,←yD]
  rw [this];exact h2 _
theorem zp4 (x:Rat) {L:List (List Rat)} {i:Nat} (h:i<L.length) (n s:Int):va x (L.drop i) n s=if Zv (ev x (L.getD i []))=0 then va x (L.drop (i+1)) n s else va x (L.drop (i+1)) (if s*Zv (ev x (L.getD i []))<0 then n+1 else n) (Zv (ev x (L.getD i []))):=by
  have e:L.drop i=L.getD i [] :: L.drop (i+1):=by
    rw [yD,yE h]
    exact List.drop_eq_getElem_cons h
  rw [e];rfl
def cbd (d:Int) (K:Nat) (l:List Rat):Prop:=∀i,∃n:Int,ln n≤K∧l.getD i 0*(d:Rat)=(n:Rat)
def cb (K:Nat) (l:List Rat):Prop:=∃d:Int,d≠0∧ln d≤K∧cbd d K l
theorem zgw (a b c:Rat):(a - b)*c=a*c - b*c:=Og
theorem Kk {d:Int} (h:d≠0):(d:Rat)≠0:=fun e=>h (by exact_mod_cast e)
theorem zp5 {x:Rat} {n d:Int} {K:Nat} (hd:d≠0) (h1:ln n≤K) (h2:ln d≤K) (h:x*(d:Rat)=(n:Rat)):hq x≤K:=by
  have e:x=yS n d:=by
    rw [Rat.divInt_eq_div]
    rw [← h,Rat.mul_div_cancel (Kk hd)]
  rw [e]
  have:=Zr (n:=n) hd
  omega
theorem Q6 {K:Nat} {l:List Rat} (h:cb K l):bd K l:=fun i=>by
  obtain ⟨d,h0,h1,h2⟩:=h
  obtain ⟨n,h3,h4⟩:=h2 i
  exact zp5 h0 h3 h1 h4
theorem ZT {K L:Nat} {l:List Rat} (h:cb K l) (hk:K≤L):cb L l:=by
  obtain ⟨d,h0,h1,h2⟩:=h
  exact ⟨d,h0,Oo,fun i=>by obtain ⟨n,h3,h4⟩:=h2 i;exact ⟨n,Oo,h4⟩⟩
theorem zsP {K:Nat} {l m:List Rat} (h:cb K l) (e:∀i,m.getD i 0=l.getD i 0):cb K m:=by
  obtain ⟨d,h0,h1,h2⟩:=h
  exact ⟨d,h0,h1,fun i=>by rw [e];exact h2 i⟩
theorem zno {K:Nat} {l:List Rat} (h:cb K l):cb K (cl l):=zsP h (Zf l)
theorem zgx {k:Nat}:∀{l:List Rat},bd k l→cb (1+l.length*k) l
  |[],_=>⟨1,Od,by rw [zhM];omega,fun i=>⟨0,by rw [VC];omega,by rw [W4 (yO _)];simp⟩⟩
  |a :: l,h=>by
    obtain ⟨d,h0,h1,h2⟩:=zgx (l:=l) (k:=k) fun i=>h (i+1)
    have ha:hq a≤k:=h 0
    have hn:=v9 a
    have hd:=jm a
    have hm:=qI d (a.den:Int)
    have hlen:(a :: l).length*k=l.length*k+k:=by rw [yX,yT]
    refine ⟨d*(a.den:Int),yV h0 (ZJ a),Oo,fun i=> ?_⟩
    cases i with
    |zero=>
      refine ⟨a.num*d,by have:=qI a.num d;omega,?_⟩
      show a*((d*(a.den:Int):Int):Rat)=_
      have e:a*((a.den:Int):Rat)=(a.num:Rat):=by
        have h1:(a.num:Rat) / ((a.den:Int):Rat)=a:=by rw [← Rat.divInt_eq_div,Rat.num_divInt_den]
        have h2:=yQ (a:=(a.num:Rat)) (Kk (ZJ a))
        rw [h1] at h2
        exact h2
      rw [yH,yH,Rat.mul_comm (d:Rat),←yY,e]
    |succ i=>
      obtain ⟨n,h3,h4⟩:=h2 i
      refine ⟨n*(a.den:Int),by have:=qI n (a.den:Int);omega,?_⟩
      show l.getD i 0*((d*(a.den:Int):Int):Rat)=_
      rw [yH,yH,←yY,h4]
theorem znp {K:Nat} {l m:List Rat} {x:Rat} (h:cb K l) (hx:x=1 / lead l) (h0:lead l≠0) (e:∀i,m.getD i 0=l.getD i 0*x):cb K m:=by
  obtain ⟨d,hd,h1,h2⟩:=h
  obtain ⟨nl,h3,h4⟩:=h2 (l.length - 1)
  have h4':lead l*(d:Rat)=(nl:Rat):=h4
  have hnl:nl≠0:=fun k=>by
    rw [k] at h4'
    rcases yP.1 (h4'.trans (by rfl)) with q|q
    · exact h0 q
    · exact Kk hd q
  refine ⟨nl,hnl,h3,fun i=> ?_⟩
  obtain ⟨n,h5,h6⟩:=h2 i
  refine ⟨n,h5,?_⟩
  rw [e,hx,←h4',←h6]
  have:l.getD i 0*(1 / lead l)*(lead l*(d:Rat))=l.getD i 0*(d:Rat)*(1 / lead l*lead l):=Og
  rw [this,yQ h0,Rat.mul_one]
theorem K1 (l:List Rat) (x:Rat) (i:Nat):(mul l [x]).getD i 0=l.getD i 0*x:=by
  rw [← zb0,Wo]
theorem zjZ {K:Nat} {l:List Rat} (hl:cl l=l) (h:cb K l):cb K (mo l):=by
  unfold mo
  split
  · rename_i h0
    have e:l=[]:=yR.1 h0
    rw [← e];exact h
  · rename_i h0
    exact znp h rfl (QH hl (fun e=>h0 (by rw [e];rfl))) (K1 l _)
theorem zsQ {K:Nat} {l:List Rat} (h:cb K l):cb K (mul l [(((-1:Int)):Rat)]):=by
  obtain ⟨d,hd,h1,h2⟩:=h
  refine ⟨d,hd,h1,fun i=> ?_⟩
  obtain ⟨n,h3,h4⟩:=h2 i
  refine ⟨-n,by rw [j6];exact h3,?_⟩
  rw [K1,show (((-1:Int)):Rat)= -1 by decide +kernel,show ((-n:Int):Rat)= -(n:Rat) from Rat.intCast_neg n,←h4]
  grind
theorem znq {K:Nat} {l:List Rat} (h:cb K l) (hl:l.length≤1000):cb (K+3) (vw l):=by
  obtain ⟨d,hd,h1,h2⟩:=h
  refine ⟨d,hd,Oo,fun i=> ?_⟩
  by_cases hi:i+1<l.length
  · obtain ⟨n, h3, h4⟩ := h2 (i + 1)
    refine ⟨((i+1:Nat):Int)*n,?_,?_⟩
    · have := qI ((i + 1 : Nat) : Int) n
      have:=zdE (z:=((i+1:Nat):Int)) Oo Oo
      omega
    · rw [Z4,yH,←h4,yY]
  · refine ⟨0, by rw [VC]; omega, ?_⟩
    rw [Z4,W4 Oo];simp
def cb2 (K:Nat) (a r:List Rat):Prop:=∃d:Int,d≠0∧ln d≤K∧cbd d K a∧cbd d K r
theorem zgy {K L:Nat} {a r q:List Rat} (hq:cl q=q) (hn:q≠[]) (h:cb2 K a r) (g:cb L q):cb2 (K+L+1) (add a (dt q r)) (sub r (mul (dt q r) q)):=by
  obtain ⟨d,hd,h1,ha,hr⟩:=h
  obtain ⟨e,he,g1,g2⟩:=g
  have hl0:=QH hq hn
  obtain ⟨nl,k1,k2⟩:=hr (r.length - 1)
  obtain ⟨ml,k3,k4⟩:=g2 (q.length - 1)
  have k2':lead r*(d:Rat)=(nl:Rat):=k2
  have k4':lead q*(e:Rat)=(ml:Rat):=k4
  have hml:ml≠0:=fun k=>by
    rw [k] at k4'
    rcases yP.1 (k4'.trans (by rfl)) with q|q
    · exact hl0 q
    · exact Kk he q
  have hk:lead r / lead q*(((d*ml:Int)):Rat)=((nl*e:Int):Rat):=by
    rw [yH,yH,←k2',←k4']
    have:lead r / lead q*((d:Rat)*(lead q*(e:Rat)))=lead r / lead q*lead q*((d:Rat)*(e:Rat)):=Og
    rw [this,yQ hl0];grind
  refine ⟨d*ml,yV hd hml,by have:=qI d ml;omega,fun i=> ?_,fun i=> ?_⟩
  · obtain ⟨n, h3, h4⟩ := ha i
    rw [VE]
    unfold dt
    rw [JV]
    split
    · refine ⟨n * ml + nl * e, ?_, ?_⟩
      · have:=QJ (n*ml) (nl*e);have:=qI n ml;have:=qI nl e;omega
      · rw [Rat.add_mul,hk,Rat.intCast_add,yH,yH,yH,←yY,h4]
    · refine ⟨n * ml, by have := qI n ml; omega, ?_⟩
      rw [Rat.add_mul,yar,Rat.add_zero,yH,yH,←yY,h4]
  · obtain ⟨n, h3, h4⟩ := hr i
    rw [Wm,Zx]
    unfold dt
    rw [zh9]
    split
    · obtain ⟨m, h5, h6⟩ := g2 (i - (r.length - q.length))
      refine ⟨n*ml - nl*m,?_,?_⟩
      · have:=WM (n*ml) (nl*m);have:=qI n ml;have:=qI nl m;omega
      · have z:lead r / lead q*q.getD (i - (r.length - q.length)) 0*(((d*ml:Int)):Rat)=((nl*m:Int):Rat):=by
          rw [yH,yH,←h6,←k2',←k4']
          have:lead r / lead q*q.getD (i - (r.length - q.length)) 0*((d:Rat)*(lead q*(e:Rat)))=lead r / lead q*lead q*((d:Rat)*(q.getD (i - (r.length - q.length)) 0*(e:Rat))):=Og
          rw [this,yQ hl0];grind
        rw [zgw,z,Rat.intCast_sub,yH,yH,yH,←yY,h4]
    · refine ⟨n * ml, by have := qI n ml; omega, ?_⟩
      rw [zgw,yar,yam,Rat.neg_zero,Rat.add_zero,yH,yH,←yY,h4]
theorem znr {K:Nat} {a r:List Rat} (h:cb2 K a r):bd K a∧bd K r:=by
  obtain ⟨d,h0,h1,h2,h3⟩:=h
  exact ⟨Q6 ⟨d,h0,h1,h2⟩,Q6 ⟨d,h0,h1,h3⟩⟩
theorem zrC {q:List Rat} {L:Nat} (hq:cl q=q) (hn:q≠[]) (g:cb L q):∀(n K:Nat) (a r:List Rat),cb2 K a r→K+n*(L+1)≤60000000000→dok q n a r
  |0,_,_,_,_,_=>trivial
  |n+1,K,a,r,h,hb=>by
    rw [yT] at hb
    refine ⟨⟨jM (znr h).1 Oo,jM (znr h).2 Oo⟩,fun _=> ?_⟩
    exact zrC hq hn g n (K+L+1) _ _ (zgy hq hn h g) Oo
theorem zrD {q:List Rat} {L:Nat} (hq:cl q=q) (hn:q≠[]) (g:cb L q):∀(n K:Nat) (a r:List Rat),cb2 K a r→cb2 (K+(r.length+1 - q.length)*(L+1)) (dv q n a r).1 (dv q n a r).2
  |0,K,a,r,h=>by
    obtain ⟨d,h0,h1,h2,h3⟩:=h
    have:K≤K+(r.length+1 - q.length)*(L+1):=Nat.le_add_right _ _
    exact ⟨d,h0,Oo,fun i=>by obtain ⟨n,a1,a2⟩:=h2 i;exact ⟨n,Oo,a2⟩,fun i=>by obtain ⟨n,a1,a2⟩:=h3 i;exact ⟨n,Oo,a2⟩⟩
  |n+1,K,a,r,h=>by
    by_cases hl:r.length<q.length
    · unfold dv
      rw [if_pos hl]
      obtain ⟨d,h0,h1,h2,h3⟩:=h
      have:K≤K+(r.length+1 - q.length)*(L+1):=Nat.le_add_right _ _
      exact ⟨d,h0,Oo,fun i=>by obtain ⟨n,a1,a2⟩:=h2 i;exact ⟨n,Oo,a2⟩,fun i=>by obtain ⟨n,a1,a2⟩:=h3 i;exact ⟨n,Oo,a2⟩⟩
    · unfold dv
      rw [if_neg hl]
      have hlt:=zbY (r:=r) hq hn Oo
      have ih:=zrD hq hn g n (K+L+1) _ _ (zgy hq hn h g)
      have e:K+L+1+((sub r (mul (dt q r) q)).length+1 - q.length)*(L+1)≤K+(r.length+1 - q.length)*(L+1):=by
        have:((sub r (mul (dt q r) q)).length+1 - q.length+1)*(L+1)≤(r.length+1 - q.length)*(L+1):=yL _ Oo
        rw [yT] at this
        omega
      obtain ⟨d,h0,h1,h2,h3⟩:=ih
      exact ⟨d,h0,Oo,fun i=>by obtain ⟨n,a1,a2⟩:=h2 i;exact ⟨n,Oo,a2⟩,fun i=>by obtain ⟨n,a1,a2⟩:=h3 i;exact ⟨n,Oo,a2⟩⟩
theorem zj0 {K:Nat} {r:List Rat} (h:cb K r):cb2 K [] r:=by
  obtain ⟨d,h0,h1,h2⟩:=h
  exact ⟨d,h0,h1,fun i=>⟨0,by rw [VC];omega,by rw [W4 (yO _)];simp⟩,h2⟩
theorem ze1 {p q:List Rat} {K L N:Nat} (hp:cl p=p) (hq:cl q=q) (hn:q.length≠0) (h:cb K p) (g:cb L q) (hN:p.length+1 - q.length≤N):cb (K+N*(L+1)) (dq p q)∧cb (K+N*(L+1)) (dr p q):=by
  have h':q≠[]:=fun e=>hn (by rw [e];rfl)
  have:=zrD hq h' g p.length K [] p (zj0 h)
  have e:(p.length+1 - q.length)*(L+1)≤N*(L+1):=yL _ hN
  unfold dq dr zeZ
  rw [hq,hp,if_neg hn,if_neg hn]
  obtain ⟨d,h0,h1,h2,h3⟩:=this
  exact ⟨ZT ⟨d,h0,h1,h2⟩ Oo,ZT ⟨d,h0,h1,h3⟩ Oo⟩
theorem zif {p q:List Rat} {K L N:Nat} (hp:cl p=p) (hq:cl q=q) (hn:q.length≠0) (h:cb K p) (g:cb L q) (hN:p.length+1≤N) (hb:K+N*(L+1)≤60000000000) (hL:L≤60000000000):dgo p q:=by
  have h':q≠[]:=fun e=>hn (by rw [e];rfl)
  refine ⟨jM (Q6 g) hL,?_⟩
  rw [hq,hp]
  refine zrC hq h' g _ K _ _ (zj0 h) ?_
  have e:(p.length+1)*(L+1)≤N*(L+1):=yL _ hN
  omega
theorem zns {N:Nat} (hN0:1≤N):∀(n K:Nat) (p q:List Rat),cl p=p→cl q=q→cb K p→cb K q→p.length+1≤N→q.length+1≤N→(K+1)*(N+1)^n≤60000000000→gok n p q∧cb ((K+1)*(N+1)^n) (ge n p q)
  |0,K,p,q,_,_,hp,_,_,_,_=>⟨trivial,ZT hp (by show K≤(K+1)*1;omega)⟩
  |n+1,K,p,q,cp,cq,hp,hq,lp,lq,hb=>by
    have e1:(K+1)*(N+1)^(n+1)=(K+1)*(N+1)*(N+1)^n:=by rw [Nat.pow_succ,Nat.mul_assoc,yan (N+1)]
    have e2:(K+1)*(N+1)≤(K+1)*(N+1)*(N+1)^n:=yW _ (Nat.pow_pos Oo)
    have e3:K+N*(K+1)+1=(K+1)*(N+1):=by rw [yan (K+1),yT];omega
    have e4:K+1≤(K+1)*(N+1):=yW _ Oo
    by_cases h0:q.length=0
    · refine ⟨fun k => absurd h0 k, ?_⟩
      rw [zc2 h0]
      exact ZT hp Oo
    · have hd := (ze1 (N := N) cp cq h0 hp hq Oo).2
      have hlt:=JB (p:=p) cq h0
      have hml:=Vu (dr p q)
      have ih:=zns hN0 n (K+N*(K+1)) q (mo (dr p q)) cq (Vd _) (ZT hq Oo) (zjZ (zgu _ _) hd) lq Oo (by rw [e3,←e1];exact hb)
      refine ⟨fun _=>⟨zif cp cq h0 hp hq lp Oo Oo,jM (Q6 hd) Oo,ih.1⟩,?_⟩
      have e5:ge (n+1) p q=ge n q (mo (dr p q)):=if_neg h0
      rw [e5,e1,←e3]
      exact ih.2
theorem zrE:∀(n:Nat) (p q:List Rat),cl p=p→cl q=q→cl (ge n p q)=ge n p q
  |0,_,_,hp,_=>hp
  |n+1,p,q,hp,hq=>by
    unfold ge
    split
    · exact hp
    · exact zrE n q _ hq (Vd _)
theorem zc4 (p q:List Rat):cl (gcd p q)=gcd p q:=zrE _ _ _ (Vd _) (Vd _)
theorem ze2 (p:List Rat):cl (ZL p)=ZL p:=by
  unfold ZL
  split
  · rfl
  · exact Vd _
theorem zj1 {N:Nat} (hN0:1≤N):∀(n K:Nat) (a b:List Rat),cl a=a→cl b=b→cb K a→cb K b→a.length+1≤N→b.length+1≤N→(K+1)*(N+1)^n≤60000000000→zlc n a b∧∀l,l∈st n a b→l.length+1≤N∧cb ((K+1)*(N+1)^n) l
  |0,K,_,_,_,_,_,_,_,_,_=>⟨trivial,fun l h=>by cases h⟩
  |n+1,K,p,q,cp,cq,hp,hq,lp,lq,hb=>by
    have e1:(K+1)*(N+1)^(n+1)=(K+1)*(N+1)*(N+1)^n:=by rw [Nat.pow_succ,Nat.mul_assoc,yan (N+1)]
    have e2:(K+1)*(N+1)≤(K+1)*(N+1)*(N+1)^n:=yW _ (Nat.pow_pos Oo)
    have e3:K+N*(K+1)+1=(K+1)*(N+1):=by rw [yan (K+1),yT];omega
    have e4:K+1≤(K+1)*(N+1):=yW _ Oo
    by_cases h0:q.length=0
    · refine ⟨fun k => absurd h0 k, fun l h => ?_⟩
      rw [zc3 h0] at h
      cases h
    · have hd := (ze1 (N := N) cp cq h0 hp hq Oo).2
      have hlt:=JB (p:=p) cq h0
      have hml:=zaF (n:=q.length) (a:=p) cq h0 (yF _)
      have ih:=zj1 hN0 n (K+N*(K+1)) q (mul (dr p q) [(((-1:Int)):Rat)]) cq (Q5 _ _) (ZT hq Oo) (zsQ hd) lq Oo (by rw [e3,←e1];exact hb)
      refine ⟨fun _=>⟨jM (Q6 hq) Oo,zif cp cq h0 hp hq lp Oo Oo,jM (Q6 hd) Oo,ih.1⟩,fun l h=> ?_⟩
      have e5:st (n+1) p q=q :: st n q (mul (dr p q) [(((-1:Int)):Rat)]):=if_neg h0
      rw [e5] at h
      rcases List.mem_cons.1 h with rfl|h
      · exact ⟨lq,ZT hq Oo⟩
      · obtain ⟨i1, i2⟩ := ih.2 l h
        exact ⟨i1,by rw [e1,←e3];exact i2⟩
theorem znt:∀(n:Nat) (p q:List Rat),cl q=q→(ge n p q).length≤max p.length q.length
  |0,p,q,_=>yak _ _
  |n+1,p,q,hq=>by
    by_cases h:q.length=0
    · rw [zc2 h];exact yak _ _
    · have e : ge (n + 1) p q = ge n q (mo (dr p q)) := if_neg h
      rw [e]
      have:=znt n q (mo (dr p q)) (Vd _)
      have:=Vu (dr p q)
      have:=JB (p:=p) hq h
      omega
theorem zp6 (p q:List Rat):(gcd p q).length≤max p.length q.length:=by
  unfold gcd
  have:=znt (cl q).length (mo (cl p)) (mo (cl q)) (Vd _)
  have:=Vu (cl p);have:=Vu (cl q)
  have:=vI p;have:=vI q
  omega
theorem znu {q:List Rat} (hq:cl q=q) (h:q≠[]):∀(n:Nat) (a r:List Rat),(dv q n a r).1.length≤max a.length r.length∧(dv q n a r).2.length≤r.length
  |0,a,r=>⟨yak _ _,yF _⟩
  |n+1,a,r=>by
    unfold dv
    split
    · exact ⟨yak _ _,yF _⟩
    · have hlt := zbY (r := r) hq h Oo
      obtain ⟨h1,h2⟩:=znu hq h n (add a (dt q r)) (sub r (mul (dt q r) q))
      have:=zjW a (dt q r)
      rw [zid] at this
      have:0<q.length:=yab.2 h
      omega
theorem zaG (p q:List Rat):(dq p q).length≤p.length∧(dr p q).length≤p.length:=by
  unfold dq dr
  split
  · exact ⟨yO _,yO _⟩
  · rename_i h
    obtain ⟨h1,h2⟩:=znu (vW q) (fun e=>h (by rw [e];rfl)) (cl p).length [] (cl p)
    have:=vI p
    unfold zeZ
    simp only [List.length_nil] at h1
    omega
theorem ze3 (p:List Rat):(ZL p).length≤p.length:=by
  unfold ZL
  split
  · exact yO _
  · have := Vu (dq (cl p) (gcd (cl p) (vw (cl p))))
    have:=(zaG (cl p) (gcd (cl p) (vw (cl p)))).1
    have:=vI p
    omega
theorem ze4 (x:Rat):∀(l:List (List Rat)) (n s:Int),n≤va x l n s∧va x l n s≤n+l.length
  |[],n,s=>by show n≤n∧n≤n+0;omega
  |p :: l,n,s=>by
    unfold va
    rw [yX]
    split
    · have:=ze4 x l n s;omega
    · split
      · have:=ze4 x l (n+1) (Zv (ev x p));omega
      · have:=ze4 x l n (Zv (ev x p));omega
theorem ze5 (l:List (List Rat)) (x:Rat):0≤vr l x∧vr l x≤l.length:=by
  have:=ze4 x l 0 0
  unfold vr
  omega
theorem zex {a b:Int} (ha: -1≤a∧a≤1) (hb: -1≤b∧b≤1): -9223372036854775808≤a*b∧a*b≤9223372036854775807:=by
  rcases (show a= -1∨a=0∨a=1 by omega) with rfl|rfl|rfl <;> omega
def isk (l:List (List Rat)):Nat→Rat→Rat→Prop
  |0,_,_=>False
  |n+1,a,b=>(hq a≤100000000000∧hq b≤100000000000∧vok l a∧vok l b)∧(bt l a b≠0→bt l a b≠1→isk l n a (mid a b)∧isk l n (mid a b) b)
theorem zc5 {l:List (List Rat)} {n:Nat} {a b:Rat} (h:bt l a b=0):K0 l n a b=[]:=by
  cases n with
  |zero=>rfl
  |succ n=>exact if_pos h
theorem zb1 {l:List (List Rat)} {n:Nat} {a b:Rat} (h:bt l a b=1):K0 l (n+1) a b=[(a,b)]:=by
  unfold K0;rw [if_neg Oo,if_pos h]
theorem zaH {l:List (List Rat)} {n:Nat} {a b:Rat} (h0:bt l a b≠0) (h1:bt l a b≠1):K0 l (n+1) a b=K0 l n a (mid a b)++K0 l n (mid a b) b:=by
  conv=>lhs;unfold K0
  rw [if_neg h0,if_neg h1]
theorem znv {a b:Rat}:0<Zv (a - b)↔b<a:=by
  rw [QY]
  constructor <;> intro h <;> grind
theorem zum {l:List Rat} (hl:cl l=l) (h:l.length≠0):(mo l).length≠0:=fun e=>by
  have h':l≠[]:=fun k=>h (by rw [k];rfl)
  have h0:=QH hl h'
  have g:(mo l).getD (l.length - 1) 0=lead l*(((1:Int):Rat) / lead l):=by
    unfold mo
    rw [if_neg h,K1];rfl
  rw [yR.1 e] at g
  have g':(0:Rat)=lead l*(((1:Int):Rat) / lead l):=g
  rw [Rat.mul_comm,yQ h0] at g'
  exact absurd g' Oz
theorem zrF:∀(n:Nat) (p q:List Rat),p.length≠0→(ge n p q).length≠0
  |0,_,_,h=>h
  |n+1,p,q,h=>by
    unfold ge
    split
    · exact h
    · rename_i h1;exact zrF n q _ h1
theorem gcd_ne {p q:List Rat} (h:(cl p).length≠0):(gcd p q).length≠0:=zrF _ _ _ (zum (vW p) h)
theorem znw {N a b:Nat} (h:a≤b) (K:Nat):(K+1)*(N+1)^a≤(K+1)*(N+1)^b:=Nat.mul_le_mul_left _ (Nat.pow_le_pow_right Oo h)
theorem st_len:∀(n:Nat) (a b:List Rat),(st n a b).length≤n
  |0,_,_=>yF _
  |n+1,a,b=>by
    unfold st
    split
    · exact yO _
    · rw [yX];have:=st_len n b (mul (dr a b) [(((-1:Int)):Rat)]);omega
theorem zbd (p:List Rat):(vH p).length≤p.length+1:=by
  unfold vH
  split
  · exact yO _
  · rw [yX];have:=st_len (ZL p).length (ZL p) (vw (ZL p));have:=ze3 p;omega
def ofL (l:List Int):List Rat:=l.map (fun z:Int=>(z:Rat))
theorem zp7 {x:Rat} {K:Nat} (h:hq x≤K):hq (x+((1:Int):Rat))≤K+2:=by
  have:=QX x ((1:Int):Rat)
  have:hq ((1:Int):Rat)=1:=Od
  omega
theorem zgz {P:List Rat} {K:Nat} (h:bd K P) (h0:lead P≠0):hq (bound P)≤K+K+2:=zp7 (zjY h h0 _)
theorem Wq {K L:Nat} {p q:List Rat} (h1:bd K p) (h2:bd L q) (k lo:Nat):∀n,hq (cv p q k lo n)≤1+min n (p.length - lo)*(K+L+1)
  |0=>by show hq 0≤_;rw [vN];omega
  |n+1=>by
    show hq (cv p q k lo n+p.getD (lo+n) 0*q.getD (k - (lo+n)) 0)≤_
    have e3:=Wq h1 h2 k lo n
    by_cases h:lo+n<p.length
    · have e1 := QX (cv p q k lo n) (p.getD (lo + n) 0 * q.getD (k - (lo + n)) 0)
      have e2:=jB (p.getD (lo+n) 0) (q.getD (k - (lo+n)) 0)
      have e4:=h1 (lo+n)
      have e5:=h2 (k - (lo+n))
      rw [show min (n+1) (p.length - lo)=min n (p.length - lo)+1 by omega,yT]
      omega
    · rw [W4 (l := p) Oo, show min (n + 1) (p.length - lo) = min n (p.length - lo) by omega, yar, Rat.add_zero]
      exact e3
theorem znx {K L N:Nat} {p q:List Rat} (h1:bd K p) (h2:bd L q) (hl:p.length≤N) (hb:1+N*(K+L+1)≤200000000000) (k lo n:Nat):hq (cv p q k lo n)≤200000000000:=by
  refine yJ (Wq h1 h2 k lo n) (yJ (yaj (yL _ ?_) _) hb)
  omega
def e1:List Rat:=ofL [-2,1,1]
def e2:List Rat:=ofL [-2,0,1]
theorem zih {K L N:Nat} {p q:List Rat} (h1:bd K p) (h2:bd L q) (hl:p.length≤N):bd (1+N*(K+L+1)) (mul p q):=fun i=>by
  have e:(mul p q).getD i 0=cv p q i 0 (i+1):=by rw [Zx,zc0];rfl
  rw [e]
  refine yJ (Wq h1 h2 i 0 (i+1)) (yaj (yL _ ?_) _)
  omega
theorem zj2 (p q:List Rat):(sub p q).length≤max p.length q.length:=by
  unfold sub
  exact yJ (vI _) (by rw [ZS];exact yF _)
theorem zp8 (p:List Rat) (x:Rat):(scl p x).length≤p.length:=by
  unfold scl
  exact yJ (vI _) (by rw [ZS];exact yF _)
theorem zj3 (p q:List Rat):mul p (cl q)=mul p q:=by unfold mul;rw [vW]
theorem zny {p q:List Rat} (hn:(cl q).length≠0):(dr p q).length<(cl q).length∧add (mul (dq p q) q) (dr p q)=cl p:=by
  have h:=zd1 (p:=p) (q:=q) (fun e=>hn (by rw [e];rfl))
  unfold dq dr
  rw [if_neg hn,if_neg hn]
  rw [zj3] at h
  exact h
theorem zsS (l:List Rat) (a:Rat):cl (scl l a)=scl l a:=vW _
theorem VX {l:List Rat} (hl:cl l=l) (h:l.length≠0):l.getD (l.length - 1) 0≠0:=QH hl (fun e=>h (by rw [e];rfl))
theorem zld {l m:List Rat} (hl:cl l=l) (h:∀i,m.getD i 0=0→l.getD i 0=0):l.length≤m.length:=by
  by_cases h0:l.length=0
  · omega
  · refine yaa fun k=>VX hl h0 (h _ (W4 Oo))
theorem zii {l:List Rat} {a:Rat} (hl:cl l=l) (ha:a≠0):(scl l a).length=l.length:=by
  refine Nat.le_antisymm (zp8 l a) (zld hl fun i h=> ?_)
  rw [Wo] at h
  rcases yP.1 h with e|e
  · exact e
  · exact absurd e ha
theorem zsT {x:Rat} (h:x≠0):((1:Int):Rat) / x≠0:=fun e=>by
  have:=yQ (a:=((1:Int):Rat)) h
  rw [e,yar] at this
  exact absurd this Oz
theorem zc6 {l:List Rat} (hl:cl l=l):∃a,a≠0∧mo l=scl l a:=by
  by_cases h:l.length=0
  · exact ⟨1,Oz,by unfold mo;rw [if_pos h,yR.1 h];rfl⟩
  · exact ⟨((1:Int):Rat) / lead l,zsT (VX hl h),by unfold mo;rw [if_neg h,zb0]⟩
theorem zle {l:List Rat} (hl:cl l=l):(mo l).length=l.length:=by
  obtain ⟨a,ha,e⟩:=zc6 hl
  rw [e,zii hl ha]
theorem zp9 (l:List Rat):mo l=if l.length=0 then [] else scl l (((1:Int):Rat) / lead l):=by unfold mo;rw [zb0]
end Po
end Go.Proofs.YtpdbimfnhglhpaaGreat
