/- Lemmas on the walk and plain lemmas that the claim of this folder uses; each states its own conditions. Lines were printed by a program of ours. -/
import Derived.Test.YtjcpbhlijoigfaaGreatZ10A
set_option linter.unusedVariables false
set_option linter.unusedSimpArgs false
set_option linter.unusedSectionVars false
open Go.Proofs.Tryz renaming underlying30 → ya, prog → yb, underlying22 → yc
open Go.Proofs.YtjcpbhlijoigfaaGreat.Big renaming digs → yd
namespace Go.Proofs.YtjcpbhlijoigfaaGreat.Big
theorem valL_drop (A:List Int) (k:Nat):valL (A.drop k)=A.getD k 0+1000000000*valL (A.drop (k+1)):=by
  rcases Nat.lt_or_ge k A.length with h|h
  · rw [List.drop_eq_getElem_cons h,List.getD_eq_getElem?_getD,List.getElem?_eq_getElem h];rfl
  · rw [List.drop_eq_nil_of_le h,List.drop_eq_nil_of_le (by omega),List.getD_eq_getElem?_getD,List.getElem?_eq_none h];rfl
theorem valL_cut (A:List Int) (k:Nat) (h:k≤A.length):valL A=valL (A.take k)+pw k*valL (A.drop k):=by
  have h1:=valL_append (A.take k) (A.drop k)
  rw [List.take_append_drop,List.length_take,Nat.min_eq_left h] at h1;exact h1
theorem okL_drop {l:List Int} (h:okL l) (k:Nat):okL (l.drop k):=fun d hd=>h d (List.mem_of_mem_drop hd)
theorem valL_take_lt {l:List Int} (h:okL l) (k:Nat):0≤valL (l.take k)∧valL (l.take k)<pw k:=by
  have h1:=valL_lt (okL_take h k)
  have h2:=valL_nonneg (okL_take h k)
  have h3:=pw_mono (show (l.take k).length≤k by rw [List.length_take];omega)
  omega
theorem pad_set {n:Nat} {qs:List Int} (x:Int):(List.replicate (n+1) 0++qs).set n x=List.replicate n 0++x :: qs:=by
  rw [List.replicate_succ',List.append_assoc,List.set_append_right _ _ (by simp)];simp
structure ShI (A:List Int) (d:Int) (k:Nat) (qs:List Int) (r:Int):Prop where
  le:k≤A.length
  len:qs.length=A.length - k
  ok:okL qs
  r0:0≤r
  r1:r<d
  eq:valL qs*d+r=valL (A.drop k)
theorem ShI.start {A:List Int} {d:Int} (hd:0<d):ShI A d A.length [] 0:=⟨Nat.le_refl _,by simp,okL_nil,Int.le_refl _,hd,by simp [valL]⟩
theorem sh_digit {r d g:Int} (h0:0≤r) (h1:r<d) (hg:0≤g∧g<1000000000):0≤(r*1000000000+g) / d∧(r*1000000000+g) / d<1000000000:=by
  refine ⟨Int.ediv_nonneg (by omega) (by omega),?_⟩
  refine Int.ediv_lt_of_lt_mul (by omega) ?_
  have:(r+1)*1000000000≤d*1000000000:=Int.mul_le_mul_of_nonneg_right (by omega) (by decide)
  rw [Int.mul_comm d] at this;omega
theorem ShI.step {A:List Int} {d:Int} {k:Nat} {qs:List Int} {r:Int} (h:ShI A d (k+1) qs r) (hA:okL A):ShI A d k ((r*1000000000+A.getD k 0) / d :: qs) ((r*1000000000+A.getD k 0)%d):=by
  have hg:=okL_getD hA k
  have h0:=h.r0;have h1:=h.r1;have hle:=h.le
  have hd:0<d:=by omega
  refine ⟨by omega,by simp only [List.length_cons,h.len];omega,okL_cons.2 ⟨sh_digit h0 h1 hg,h.ok⟩,Int.emod_nonneg _ (by omega),Int.emod_lt_of_pos _ hd,?_⟩
  rw [valL_drop,←h.eq]
  have e:=Int.mul_ediv_add_emod (r*1000000000+A.getD k 0) d
  simp only [valL]
  rw [Int.add_mul,Int.mul_comm _ d]
  have e2:1000000000*valL qs*d=1000000000*(valL qs*d):=Int.mul_assoc _ _ _
  omega
theorem ShI.fin {a m:Nat} {qs:List Int} {r:Int} (h:ShI (digs a) (m:Int) 0 qs r):trimL qs=digs (a / m)∧r=((a%m:Nat):Int):=by
  have e:=h.eq;have h0:=h.r0;have h1:=h.r1;have hn:=valL_nonneg h.ok
  rw [List.drop_zero,valL_digs] at e
  have hq:valL qs=((a / m:Nat):Int):=by
    rw [Int.natCast_ediv]
    symm
    have e3:(a:Int)=r+valL qs*(m:Int):=by omega
    rw [e3,Int.add_mul_ediv_right _ _ (by omega),Int.ediv_eq_zero_of_lt h0 h1];omega
  refine ⟨trimL_of h.ok hq,?_⟩
  rw [Int.natCast_emod]
  have e3:(a:Int)=r+valL qs*(m:Int):=by omega
  rw [e3,Int.add_mul_emod_self_right,Int.emod_eq_of_lt h0 h1]
structure LgI (M n:Nat) (a v:Int) (jj:Nat) (u qs:List Int):Prop where
  ul:u.length=M
  uo:okL u
  ql:qs.length=M - n - jj
  qo:okL qs
  jle:jj+n≤M
  eq:valL u+v*pw jj*valL qs=a
  lt:valL u<v*pw jj
structure Gs (T v vt top g r:Int):Prop where
  eq:g*vt+r=top
  r0:0≤r
  g0:0≤g
  up:T<(g+1)*v
structure Tp (T v vt vs u2 u1 u0 w:Int):Prop where
  w1:1≤w
  vt1:1≤vt
  vt2:vt<1000000000
  vs0:0≤vs
  vs1:vs<1000000000
  a0:0≤u0∧u0<1000000000
  a1:0≤u1∧u1<1000000000
  a2:0≤u2∧u2<1000000000
  vlo:(vt*1000000000+vs)*w≤v
  vhi:v<(vt*1000000000+vs+1)*w
  tlo:((u2*1000000000+u1)*1000000000+u0)*w≤T
  thi:T<((u2*1000000000+u1)*1000000000+u0+1)*w
  tv:T<v*1000000000
theorem mul_le_of {a b w:Int} (hw:0≤w) (h:a≤b):a*w≤b*w:=Int.mul_le_mul_of_nonneg_right h hw
theorem lt_of_mul {a b w:Int} (hw:1≤w) (h:a*w<b*w):a<b:=Int.lt_of_mul_lt_mul_right h (by omega)
theorem Tp.top {T v vt vs u2 u1 u0 w:Int} (h:Tp T v vt vs u2 u1 u0 w):u2≤vt:=by
  have h1:=h.tlo;have h2:=h.tv;have h3:=h.vhi;have hw:=h.w1
  have h4:=h.a0;have h5:=h.a1;have h6:=h.vs1
  have h7:((u2*1000000000+u1)*1000000000+u0)*w<((vt*1000000000+vs+1)*1000000000)*w:=by
    have:v*1000000000<(vt*1000000000+vs+1)*w*1000000000:=by omega
    have e:(vt*1000000000+vs+1)*w*1000000000=((vt*1000000000+vs+1)*1000000000)*w:=by rw [Int.mul_assoc,Int.mul_assoc,Int.mul_comm w]
    omega
  have h8:=lt_of_mul hw h7
  omega
theorem Tp.start {T v vt vs u2 u1 u0 w:Int} (h:Tp T v vt vs u2 u1 u0 w):Gs T v vt (u2*1000000000+u1) ((u2*1000000000+u1) / vt) ((u2*1000000000+u1)%vt):=by
  have hv:=h.vt1;have h1:=h.a1;have h2:=h.a2;have hw:=h.w1
  have e:=Int.mul_ediv_add_emod (u2*1000000000+u1) vt
  have hr:=Int.emod_lt_of_pos (u2*1000000000+u1) (show 0<vt by omega)
  have hr0:=Int.emod_nonneg (u2*1000000000+u1) (show vt≠0 by omega)
  have hq0:0≤(u2*1000000000+u1) / vt:=Int.ediv_nonneg (by omega) (by omega)
  generalize (u2*1000000000+u1) / vt=g at*
  generalize (u2*1000000000+u1)%vt=r at*
  refine ⟨by rw [Int.mul_comm];exact e,hr0,hq0,?_⟩
  have ht:=h.thi;have hl:=h.vlo;have h0:=h.a0;have hs:=h.vs0
  have k1:(u2*1000000000+u1)*1000000000+u0+1≤(g+1)*(vt*1000000000+vs):=by
    have k2:(g+1)*(vt*1000000000+vs)=1000000000*(vt*g)+1000000000*vt+(g+1)*vs:=by grind
    have k3:0≤(g+1)*vs:=Int.mul_nonneg (by omega) hs
    omega
  have k4:=mul_le_of (show 0≤w by omega) k1
  have k5:(g+1)*(vt*1000000000+vs)*w≤(g+1)*v:=by rw [Int.mul_assoc];exact Int.mul_le_mul_of_nonneg_left hl (by omega)
  omega
theorem Gs.le {T v vt vs u2 u1 u0 w g r:Int} (h:Tp T v vt vs u2 u1 u0 w) (k:Gs T v vt (u2*1000000000+u1) g r):g≤2000000000∧r≤1000000000000000000:=by
  have h1:=h.top;have h2:=k.eq;have h3:=h.a1;have h4:=h.vt1;have h5:=k.r0;have h6:=k.g0;have h7:=h.vt2
  have h8:0≤g*vt:=Int.mul_nonneg h6 (by omega)
  refine ⟨?_,by omega⟩
  refine Decidable.byContradiction fun hc=> ?_
  have h9:2000000001*vt≤g*vt:=Int.mul_le_mul_of_nonneg_right (by omega) (by omega)
  omega
theorem Gs.step {T v vt vs u2 u1 u0 w g r:Int} (h:Tp T v vt vs u2 u1 u0 w) (k:Gs T v vt (u2*1000000000+u1) g r) (hc:1000000000≤g∨r*1000000000+u0<g*vs):1≤g∧Gs T v vt (u2*1000000000+u1) (g - 1) (r+vt):=by
  have hr:=k.r0;have hg:=k.g0;have he:=k.eq;have hv:=h.vt1;have h0:=h.a0;have hw:=h.w1
  have hg1:1≤g:=by
    rcases hc with hc|hc
    · omega
    · refine Decidable.byContradiction fun hn => ?_
      have:g=0:=by omega
      subst this;simp at hc;omega
  have hvp:0≤v:=by
    have h1:=h.vlo;have h2:=h.vs0
    have:0≤(vt*1000000000+vs)*w:=Int.mul_nonneg (by omega) (by omega)
    omega
  refine ⟨hg1,⟨by rw [Int.sub_mul];omega,by omega,by omega,?_⟩⟩
  rw [show g - 1+1=g by omega]
  rcases hc with hc|hc
  · have h1 := h.tv
    have:1000000000*v≤g*v:=mul_le_of hvp hc
    omega
  · have h1 := h.thi; have h2 := h.vlo
    have k1:(u2*1000000000+u1)*1000000000+u0+1≤g*(vt*1000000000+vs):=by
      have:g*(vt*1000000000+vs)=1000000000*(g*vt)+g*vs:=by grind
      omega
    have k4:=mul_le_of (show 0≤w by omega) k1
    have k5:g*(vt*1000000000+vs)*w≤g*v:=by rw [Int.mul_assoc];exact Int.mul_le_mul_of_nonneg_left h2 (by omega)
    omega
theorem Gs.fin {T v vt vs u2 u1 u0 w g r:Int} (h:Tp T v vt vs u2 u1 u0 w) (k:Gs T v vt (u2*1000000000+u1) g r) (h1:g<1000000000) (h2:g*vs≤r*1000000000+u0):g*v<T+v:=by
  have he:=k.eq;have hg:=k.g0;have hw:=h.w1;have hv:=h.vt1;have hs:=h.vs0
  have k1:g*(vt*1000000000+vs)≤(u2*1000000000+u1)*1000000000+u0:=by
    have:g*(vt*1000000000+vs)=1000000000*(g*vt)+g*vs:=by grind
    omega
  have k2:=mul_le_of (show 0≤w by omega) k1
  have k3:=h.tlo
  have hl:=h.vlo;have hh:=h.vhi
  have k4:g*(v - (vt*1000000000+vs)*w)≤g*w:=Int.mul_le_mul_of_nonneg_left (by rw [Int.add_mul (vt*1000000000+vs),Int.one_mul] at hh;omega) hg
  have k5:g*w≤999999999*w:=mul_le_of (by omega) (by omega)
  have k6:1000000000*w≤(vt*1000000000+vs)*w:=mul_le_of (by omega) (by omega)
  rw [Int.mul_sub,←Int.mul_assoc] at k4
  omega
theorem Gs.broke {T v vt vs u2 u1 u0 w g r:Int} (h:Tp T v vt vs u2 u1 u0 w) (k:Gs T v vt (u2*1000000000+u1) g r) (hb:1000000000≤r):g<1000000000∧g*vs≤r*1000000000+u0:=by
  have h1:=h.top;have he:=k.eq;have h3:=h.a1;have h4:=h.vt1;have hg:=k.g0;have h0:=h.a0
  have hlt:g<1000000000:=by
    refine Decidable.byContradiction fun hc=> ?_
    have:1000000000*vt≤g*vt:=mul_le_of (by omega) (by omega)
    omega
  refine ⟨hlt,?_⟩
  have hs:=h.vs1;have hs0:=h.vs0
  have:g*vs≤999999999*vs:=mul_le_of hs0 (by omega)
  omega
theorem LgI.T {M n:Nat} {a v:Int} {j:Nat} {u qs:List Int} (h:LgI M n a v (j+1) u qs):valL u=valL (u.take j)+pw j*valL (u.drop j)∧0≤valL (u.take j)∧valL (u.take j)<pw j∧0≤valL (u.drop j)∧valL (u.drop j)<v*1000000000:=by
  have h1:=valL_cut u j (by rw [h.ul];have:=h.jle;omega)
  have h2:=valL_take_lt h.uo j
  have h3:=valL_nonneg (okL_drop h.uo j)
  refine ⟨h1,h2.1,h2.2,h3,?_⟩
  have h4:=h.lt
  rw [pw_succ] at h4
  have h5:pw j*valL (u.drop j)<pw j*(v*1000000000):=by
    have:v*(1000000000*pw j)=pw j*(v*1000000000):=by ac_rfl
    omega
  exact Int.lt_of_mul_lt_mul_left h5 (Int.le_of_lt (pw_pos j))
theorem drop_high {l:List Int} (h:okL l) {k:Nat} (hv:valL l<pw k):valL (l.drop k)=0:=by
  rcases Nat.lt_or_ge l.length k with hk|hk
  · rw [List.drop_eq_nil_of_le (by omega)];rfl
  · have h1 := valL_cut l k hk
    have h2:=valL_nonneg (okL_take h k)
    have h3:=valL_nonneg (okL_drop h k)
    refine Decidable.byContradiction fun hc=> ?_
    have:pw k*1≤pw k*valL (l.drop k):=Int.mul_le_mul_of_nonneg_left (by omega) (Int.le_of_lt (pw_pos k))
    omega
theorem getD_drop' (l:List Int) (i k:Nat):(l.drop i).getD k 0=l.getD (i+k) 0:=by simp [List.getD_eq_getElem?_getD]
theorem digs_top {b:Nat} {n:Nat} (h:(digs b).length=n+1):1≤(digs b).getD n 0:=by
  have h1:=canon_digs (b:Int)
  unfold canon at h1
  rw [Int.natAbs_natCast,if_neg (by omega),h,Nat.add_sub_cancel] at h1
  have h2:=okL_getD (digs_ok b) n
  omega
theorem LgI.high {M n:Nat} {a:Int} {b j:Nat} {u qs:List Int} (h:LgI M n a (b:Int) (j+1) u qs) (hn:(digs b).length=n):valL (u.drop (j+(n+1)))=0:=by
  have ht:=h.T
  have hb:=digs_lt b
  rw [hn] at hb
  have:=drop_high (okL_drop h.uo j) (k:=n+1) (by rw [pw_succ];omega)
  rw [List.drop_drop] at this;exact this
theorem LgI.tp {M m:Nat} {a:Int} {b j:Nat} {u qs:List Int} (h:LgI M (m+2) a (b:Int) (j+1) u qs) (hn:(digs b).length=m+2):Tp (valL (u.drop j)) b ((digs b).getD (m+1) 0) ((digs b).getD m 0) (u.getD (j+(m+2)) 0) (u.getD (j+(m+1)) 0) (u.getD (j+m) 0) (pw m):=by
  have ht:=h.T
  have hh:=h.high hn
  have hvb:=valL_digs b
  have e1:valL (digs b)=valL ((digs b).take m)+pw m*valL ((digs b).drop m):=valL_cut _ _ (by omega)
  have e2:valL ((digs b).drop m)=(digs b).getD m 0+1000000000*(digs b).getD (m+1) 0:=by
    rw [valL_drop,valL_drop,List.drop_eq_nil_of_le (show (digs b).length≤m+1+1 by omega)];simp [valL]
  have e3:=valL_take_lt (digs_ok b) m
  have f1:valL (u.drop j)=valL ((u.drop j).take m)+pw m*valL ((u.drop j).drop m):=valL_cut _ _ (by rw [List.length_drop,h.ul];have:=h.jle;omega)
  have f2:valL ((u.drop j).drop m)=u.getD (j+m) 0+1000000000*(u.getD (j+(m+1)) 0+1000000000*u.getD (j+(m+2)) 0):=by
    rw [List.drop_drop,valL_drop,valL_drop,valL_drop,show j+m+1+1+1=j+(m+2+1) by omega,hh,show j+m+1=j+(m+1) by omega,show j+(m+1)+1=j+(m+2) by omega];omega
  have f3:=valL_take_lt (okL_drop h.uo j) m
  have hp:=pw_pos m
  have ob:=digs_ok b
  have g1:=okL_getD ob (m+1);have g0:=okL_getD ob m
  have c0:=okL_getD h.uo (j+m);have c1:=okL_getD h.uo (j+(m+1));have c2:=okL_getD h.uo (j+(m+2))
  refine ⟨by omega,digs_top (n:=m+1) hn,g1.2,g0.1,g0.2,c0,c1,c2,?_,?_,?_,?_,ht.2.2.2.2⟩
  · rw [← hvb, e1, e2]
    have:(digs b).getD (m+1) 0*1000000000+(digs b).getD m 0=(digs b).getD m 0+1000000000*(digs b).getD (m+1) 0:=by omega
    rw [this,Int.mul_comm];omega
  · rw [← hvb, e1, e2]
    have:(digs b).getD (m+1) 0*1000000000+(digs b).getD m 0+1=((digs b).getD m 0+1000000000*(digs b).getD (m+1) 0)+1:=by omega
    rw [this,Int.add_mul,Int.mul_comm _ (pw m)];omega
  · rw [f1, f2]
    have:(u.getD (j+(m+2)) 0*1000000000+u.getD (j+(m+1)) 0)*1000000000+u.getD (j+m) 0=u.getD (j+m) 0+1000000000*(u.getD (j+(m+1)) 0+1000000000*u.getD (j+(m+2)) 0):=by omega
    rw [this,Int.mul_comm];omega
  · rw [f1, f2]
    have:(u.getD (j+(m+2)) 0*1000000000+u.getD (j+(m+1)) 0)*1000000000+u.getD (j+m) 0+1=(u.getD (j+m) 0+1000000000*(u.getD (j+(m+1)) 0+1000000000*u.getD (j+(m+2)) 0))+1:=by omega
    rw [this,Int.add_mul,Int.mul_comm _ (pw m)];omega
structure MsI (u:List Int) (j:Nat) (g:Int) (v:List Int) (i:Nat) (u2:List Int) (bo ca:Int):Prop where
  len:u2.length=u.length
  ok:okL u2
  b0:0≤bo
  b1:bo≤1
  c0:0≤ca
  c1:ca<1000000000
  far:∀k,j+i≤k→u2.getD k 0=u.getD k 0
  eq:valL u2=valL u - pw j*(g*valL (v.take i))+pw (j+i)*(bo+ca)
theorem MsI.start {u:List Int} (h:okL u) (j:Nat) (g:Int) (v:List Int):MsI u j g v 0 u 0 0:=⟨rfl,h,by decide,by decide,by decide,by decide,fun _ _=>rfl,by simp [valL]⟩
theorem ms_carry {g x ca:Int} (hg:0≤g∧g<1000000000) (hx:0≤x∧x<1000000000) (hc:0≤ca∧ca<1000000000):0≤g*x+ca∧g*x+ca≤999999999000000000∧0≤(g*x+ca) / 1000000000∧(g*x+ca) / 1000000000<1000000000:=by
  have h1:0≤g*x:=Int.mul_nonneg hg.1 hx.1
  have h2:g*x≤999999999*x:=mul_le_of hx.1 (by omega)
  omega
theorem MsI.step {u:List Int} {j:Nat} {g:Int} {v:List Int} {i:Nat} {u2:List Int} {bo ca y bo2:Int} (h:MsI u j g v i u2 bo ca) (hg:0≤g∧g<1000000000) (hv:okL v) (hj:j+i<u.length)
    (hy:y=u2.getD (j+i) 0 - bo - (g*v.getD i 0+ca)%1000000000+1000000000*bo2) (hy0:0≤y∧y<1000000000) (hb:0≤bo2∧bo2≤1):MsI u j g v (i+1) (u2.set (j+i) y) bo2 ((g*v.getD i 0+ca) / 1000000000):=by
  have hc:=ms_carry hg (okL_getD hv i) ⟨h.c0,h.c1⟩
  refine ⟨by rw [List.length_set];exact h.len,okL_set h.ok hy0.1 hy0.2,hb.1,hb.2,hc.2.2.1,hc.2.2.2,fun k hk=>by rw [getD_set_ne (by omega)];exact h.far k (by omega),?_⟩
  rw [valL_set y (by rw [h.len];exact hj),h.eq,valL_take_succ,hy]
  have e:=Int.mul_ediv_add_emod (g*v.getD i 0+ca) 1000000000
  rw [← Nat.add_assoc,pw_succ,pw_add]
  generalize (g*v.getD i 0+ca) / 1000000000=q at*
  generalize (g*v.getD i 0+ca)%1000000000=r at*
  have e2:r=g*v.getD i 0+ca - 1000000000*q:=by omega
  subst e2
  grind
structure AbI (u:List Int) (j:Nat) (v:List Int) (i:Nat) (u2:List Int) (ca:Int):Prop where
  len:u2.length=u.length
  ok:okL u2
  c0:0≤ca
  c1:ca≤1
  far:∀k,j+i≤k→u2.getD k 0=u.getD k 0
  eq:valL u2=valL u+pw j*valL (v.take i) - pw (j+i)*ca
theorem AbI.start {u:List Int} (h:okL u) (j:Nat) (v:List Int):AbI u j v 0 u 0:=⟨rfl,h,by decide,by decide,fun _ _=>rfl,by simp [valL]⟩
theorem AbI.step {u:List Int} {j:Nat} {v:List Int} {i:Nat} {u2:List Int} {ca y c2:Int} (h:AbI u j v i u2 ca) (hj:j+i<u.length)
    (hy:y=u2.getD (j+i) 0+v.getD i 0+ca - 1000000000*c2) (hy0:0≤y∧y<1000000000) (hb:0≤c2∧c2≤1):AbI u j v (i+1) (u2.set (j+i) y) c2:=by
  refine ⟨by rw [List.length_set];exact h.len,okL_set h.ok hy0.1 hy0.2,hb.1,hb.2,fun k hk=>by rw [getD_set_ne (by omega)];exact h.far k (by omega),?_⟩
  rw [valL_set y (by rw [h.len];exact hj),h.eq,valL_take_succ,hy]
  rw [← Nat.add_assoc,pw_succ,pw_add]
  grind
theorem LgI.next {M n:Nat} {a v:Int} {j:Nat} {u qs:List Int} (h:LgI M n a v (j+1) u qs) {u':List Int} {g:Int} (hl:u'.length=M) (ho:okL u') (hg:0≤g∧g<1000000000) (he:valL u'=valL u - pw j*(g*v)) (hlt:valL u'<v*pw j):LgI M n a v j u' (g :: qs):=by
  have hj:=h.jle
  refine ⟨hl,ho,by rw [List.length_cons,h.ql];omega,okL_cons.2 ⟨hg,h.qo⟩,by omega,?_,hlt⟩
  rw [he,←h.eq,pw_succ]
  simp only [valL]
  grind
theorem LgI.bound {M n:Nat} {a v:Int} {j:Nat} {u qs:List Int} (h:LgI M n a v (j+1) u qs) {g:Int} (hup:valL (u.drop j)<(g+1)*v):valL u<pw j*((g+1)*v):=by
  obtain ⟨h1,h2,h3,h4,_⟩:=h.T
  have:pw j*(valL (u.drop j)+1)≤pw j*((g+1)*v):=Int.mul_le_mul_of_nonneg_left (by omega) (Int.le_of_lt (pw_pos j))
  rw [Int.mul_add,Int.mul_one] at this;omega
theorem LgI.low {M n:Nat} {a v:Int} {j:Nat} {u qs:List Int} (h:LgI M n a v (j+1) u qs) {g:Int} (hdn:g*v<valL (u.drop j)+v):pw j*(g*v)<valL u+pw j*v:=by
  obtain ⟨h1,h2,h3,h4,_⟩:=h.T
  have:pw j*(g*v+1)≤pw j*(valL (u.drop j)+v):=Int.mul_le_mul_of_nonneg_left (by omega) (Int.le_of_lt (pw_pos j))
  rw [Int.mul_add,Int.mul_add,Int.mul_one] at this
  have:=pw_pos j;omega
theorem at_split {u:List Int} {k:Nat} (hk:k<u.length) (h0:valL (u.drop (k+1))=0):valL u=valL (u.take k)+pw k*u.getD k 0:=by
  rw [valL_cut u k (by omega),valL_drop u k,h0];simp
theorem drop_far {u u2:List Int} {k:Nat} (hl:u2.length=u.length) (h:∀i,k≤i→u2.getD i 0=u.getD i 0):u2.drop k=u.drop k:=
  ext_getD (by simp [hl]) (fun i hi=>by rw [getD_drop',getD_drop'];exact h _ (by omega))
theorem LgI.pos {M n:Nat} {a:Int} {b j:Nat} {u qs:List Int} (h:LgI M n a (b:Int) (j+1) u qs) {g:Int} (hg:0≤g∧g<1000000000) (hup:valL (u.drop j)<(g+1)*(b:Int))
    {u2:List Int} {bo ca:Int} (hm:MsI u j g (digs b) n u2 bo ca) (hn:(digs b).length=n) (hd:0≤u2.getD (j+n) 0 - bo - ca):LgI M n a (b:Int) j (u2.set (j+n) (u2.getD (j+n) 0 - bo - ca)) (g :: qs):=by
  have hj:=h.jle
  have hx:=okL_getD hm.ok (j+n)
  have h1:=hm.b0;have h2:=hm.c0
  have he:valL (u2.set (j+n) (u2.getD (j+n) 0 - bo - ca))=valL u - pw j*(g*(b:Int)):=by
    rw [valL_set _ (by rw [hm.len,h.ul];omega),hm.eq,List.take_of_length_le (by omega),valL_digs]
    grind
  refine h.next (by rw [List.length_set,hm.len,h.ul]) (okL_set hm.ok hd (by omega)) hg he ?_
  have:=h.bound hup
  rw [he]
  have e:pw j*((g+1)*(b:Int))=pw j*(g*(b:Int))+(b:Int)*pw j:=by grind
  omega
theorem LgI.neg1 {M n:Nat} {a:Int} {b j:Nat} {u qs:List Int} (h:LgI M n a (b:Int) (j+1) u qs) {g:Int}
    {u2:List Int} {bo ca:Int} (hm:MsI u j g (digs b) n u2 bo ca) (hn:(digs b).length=n) (hd:u2.getD (j+n) 0 - bo - ca<0):g≠0:=fun hg=>by
  subst hg
  have hj:=h.jle
  have hlen2:j+n<u2.length:=by rw [hm.len,h.ul];omega
  have hhi2:valL (u2.drop (j+n+1))=0:=by rw [drop_far hm.len (fun i hi=>hm.far i (by omega))];exact h.high hn
  have s2:=at_split hlen2 hhi2
  have t2:=valL_take_lt hm.ok (j+n)
  have hp:=pw_pos (j+n)
  have e:=hm.eq
  have:pw (j+n)*(u2.getD (j+n) 0 - bo - ca)≤pw (j+n)*(-1):=Int.mul_le_mul_of_nonneg_left (by omega) (Int.le_of_lt hp)
  rw [Int.mul_sub,Int.mul_sub] at this
  rw [Int.mul_add,Int.zero_mul,Int.mul_zero] at e
  have:=valL_nonneg h.uo
  omega
theorem LgI.neg {M n:Nat} {a:Int} {b j:Nat} {u qs:List Int} (h:LgI M n a (b:Int) (j+1) u qs) {g:Int} (hg:0≤g∧g<1000000000) (hdn:g*(b:Int)<valL (u.drop j)+(b:Int)) (hup:valL (u.drop j)<(g+1)*(b:Int))
    {u2:List Int} {bo ca:Int} (hm:MsI u j g (digs b) n u2 bo ca) (hn:(digs b).length=n) (hd:u2.getD (j+n) 0 - bo - ca<0)
    {u4:List Int} {c:Int} (hb:AbI (u2.set (j+n) (u2.getD (j+n) 0 - bo - ca+1000000000)) j (digs b) n u4 c):1≤g∧LgI M n a (b:Int) j (u4.set (j+n) ((u4.getD (j+n) 0+c)%1000000000)) ((g - 1) :: qs):=by
  have hj:=h.jle
  have hx:=okL_getD hm.ok (j+n)
  have hy:=okL_getD hb.ok (j+n)
  have h1:=hm.b0;have h2:=hm.c0;have h3:=hm.b1;have h4:=hm.c1;have c0:=hb.c0;have c1:=hb.c1
  have hlen2:j+n<u2.length:=by rw [hm.len,h.ul];omega
  have hlen4:j+n<u4.length:=by rw [hb.len,List.length_set];exact hlen2
  have hhi:=h.high hn
  have hhi2:valL (u2.drop (j+n+1))=0:=by rw [drop_far hm.len (fun i hi=>hm.far i (by omega))];exact hhi
  have s2:=at_split hlen2 hhi2
  have t2:=valL_take_lt hm.ok (j+n)
  have hp:=pw_pos (j+n)
  -- what the subtraction left is below 0
  have hS:valL u - pw j*(g*(b:Int))<0:=by
    have e:=hm.eq
    rw [List.take_of_length_le (by omega),valL_digs] at e
    have:pw (j+n)*(u2.getD (j+n) 0 - bo - ca)≤pw (j+n)*(-1):=Int.mul_le_mul_of_nonneg_left (by omega) (Int.le_of_lt hp)
    rw [Int.mul_sub,Int.mul_sub] at this
    rw [Int.mul_add] at e
    omega
  have hlow:=h.low hdn
  have hg1:1≤g:=by
    refine Decidable.byContradiction fun hc=> ?_
    have:g=0:=by omega
    subst this
    have:=valL_nonneg h.uo
    simp at hS;omega
  refine ⟨hg1,?_⟩
  have e4:=hb.eq
  rw [List.take_of_length_le (by omega),valL_digs,valL_set _ hlen2] at e4
  have e2:=hm.eq
  rw [List.take_of_length_le (by omega),valL_digs] at e2
  have hhi4:valL (u4.drop (j+n+1))=0:=by
    rw [drop_far (u:=u2.set (j+n) (u2.getD (j+n) 0 - bo - ca+1000000000)) hb.len (fun i hi=>hb.far i (by omega)),drop_far (u:=u2) (by simp) (fun i hi=>getD_set_ne (by omega) _)];exact hhi2
  have s4:=at_split hlen4 hhi4
  have t4:=valL_take_lt hb.ok (j+n)
  have hk:=Int.mul_ediv_add_emod (u4.getD (j+n) 0+c) 1000000000
  have hk0:=Int.emod_nonneg (u4.getD (j+n) 0+c) (show (1000000000:Int)≠0 by decide)
  have hk1:=Int.emod_lt_of_pos (u4.getD (j+n) 0+c) (show (0:Int)<1000000000 by decide)
  have hset:valL (u4.set (j+n) ((u4.getD (j+n) 0+c)%1000000000))=valL u4+pw (j+n)*((u4.getD (j+n) 0+c)%1000000000 - u4.getD (j+n) 0):=valL_set _ hlen4
  have hbig:(b:Int)<pw n:=by rw [← hn];exact digs_lt b
  have hbw:pw j*(b:Int)<pw (j+n):=by rw [pw_add];exact Int.mul_lt_mul_of_pos_left hbig (pw_pos j)
  -- the last group overflows
  have hco:(u4.getD (j+n) 0+c) / 1000000000=1:=by
    have hq:(u4.getD (j+n) 0+c) / 1000000000=0∨(u4.getD (j+n) 0+c) / 1000000000=1:=by omega
    rcases hq with hq|hq
    · exfalso
      have hy2:u4.getD (j+n) 0+c≤999999999:=by omega
      have m1:pw (j+n)*(u4.getD (j+n) 0+c)≤pw (j+n)*999999999:=Int.mul_le_mul_of_nonneg_left hy2 (Int.le_of_lt hp)
      rw [Int.mul_add] at m1
      have m2:pw (j+n)*(u2.getD (j+n) 0 - bo - ca+1000000000 - u2.getD (j+n) 0)=pw (j+n)*1000000000 - pw (j+n)*(bo+ca):=by grind
      rw [m2] at e4
      omega
    · exact hq
  have he:valL (u4.set (j+n) ((u4.getD (j+n) 0+c)%1000000000))=valL u - pw j*((g - 1)*(b:Int)):=by
    rw [hset,e4,e2]
    have hr:(u4.getD (j+n) 0+c)%1000000000=u4.getD (j+n) 0+c - 1000000000:=by omega
    rw [hr]
    grind
  refine h.next (by rw [List.length_set,hb.len,List.length_set,hm.len,h.ul]) (okL_set hb.ok hk0 hk1) ⟨by omega,by omega⟩ he ?_
  rw [he]
  have e:pw j*((g - 1)*(b:Int))=pw j*(g*(b:Int)) - (b:Int)*pw j:=by grind
  omega
theorem LgI.start {M n a b:Nat} {u:List Int} (ho:okL u) (hl:u.length=M) (hv:valL u=(a:Int)) (hn:(digs b).length=n) (hM:n+1≤M) (hu:valL u<pw (M - 1)) (h1:1≤n):LgI M n (a:Int) (b:Int) (M - n) u []:=by
  refine ⟨hl,ho,by simp,okL_nil,by omega,by rw [hv];simp [valL],?_⟩
  have h2:pw (n - 1)≤(b:Int):=digs_low (by omega)
  have h3:pw (M - 1)=pw (n - 1)*pw (M - n):=by rw [← pw_add];congr 1;omega
  have h4:pw (n - 1)*pw (M - n)≤(b:Int)*pw (M - n):=mul_le_of (Int.le_of_lt (pw_pos _)) h2
  omega
theorem LgI.fin {M n a b:Nat} {u qs:List Int} (h:LgI M n (a:Int) (b:Int) 0 u qs) (hn:(digs b).length=n):trimL qs=digs (a / b)∧trimL (u.take n)=digs (a%b):=by
  have e:=h.eq;have hlt:=h.lt
  rw [pw_zero,Int.mul_one] at e hlt
  have h0:=valL_nonneg h.uo;have hq0:=valL_nonneg h.qo
  have hu:valL u=((a%b:Nat):Int):=by
    rw [Int.natCast_emod,←e,Int.add_mul_emod_self_left,Int.emod_eq_of_lt h0 hlt]
  have hq:valL qs=((a / b:Nat):Int):=by
    rw [Int.natCast_ediv,←e,Int.add_mul_ediv_left _ _ (by omega),Int.ediv_eq_zero_of_lt h0 hlt];omega
  refine ⟨trimL_of h.qo hq,trimL_of (okL_take h.uo n) ?_⟩
  have h1:=h.jle
  have hc:=valL_cut u n (by rw [h.ul];omega)
  have hz:valL (u.drop n)=0:=drop_high h.uo (by have:=digs_lt b;rw [hn] at this;omega)
  rw [hz,Int.mul_zero,Int.add_zero] at hc
  rw [← hc,hu]
end Go.Proofs.YtjcpbhlijoigfaaGreat.Big
namespace Go.Proofs.YtjcpbhlijoigfaaGreat.Big
def fq (x y:Int):Int:=if 0<y then x / y else (-x) / (-y)
def fr (x y:Int):Int:=x - y*fq x y
theorem ediv_of {x y q r:Int} (h:x=y*q+r) (h0:0≤r) (h1:r<y):x / y=q:=by
  rw [h,Int.add_comm,Int.add_mul_ediv_left _ _ (by omega),Int.ediv_eq_zero_of_lt h0 h1];omega
theorem fq_of {x y q r:Int} (h:x=y*q+r) (hr:(0<y∧0≤r∧r<y)∨(y<0∧y<r∧r≤0)):fq x y=q∧fr x y=r:=by
  have e:fq x y=q:=by
    unfold fq
    rcases hr with ⟨h1,h2,h3⟩|⟨h1,h2,h3⟩
    · rw [if_pos h1];exact ediv_of h h2 h3
    · rw [if_neg (by omega)]
      exact ediv_of (r:= -r) (by rw [h,Int.neg_mul];omega) (by omega) (by omega)
  refine ⟨e,?_⟩
  unfold fr;rw [e];omega
theorem abs_split (x y:Int):(x.natAbs:Int)=(y.natAbs:Int)*((x.natAbs / y.natAbs:Nat):Int)+((x.natAbs%y.natAbs:Nat):Int):=by
  rw [← Int.natCast_mul,←Int.natCast_add,Nat.div_add_mod]
theorem sg_t (n:Int):sg true n= -n:=rfl
theorem sg_f (n:Int):sg false n=n:=rfl
theorem fq_same {x y:Int} (hy:y≠0) (h:decide (x<0)=decide (y<0)):sg false ((x.natAbs / y.natAbs:Nat):Int)=fq x y∧sg (decide (y<0)) ((x.natAbs%y.natAbs:Nat):Int)=fr x y:=by
  have e:=abs_split x y
  have hlt:=Nat.mod_lt x.natAbs (show 0<y.natAbs by omega)
  generalize x.natAbs / y.natAbs=q at*
  generalize x.natAbs%y.natAbs=r at*
  rw [sg_f]
  by_cases hy0:y<0
  · have hx : x < 0 := by simpa [hy0] using h
    rw [decide_eq_true hy0,sg_t]
    have:=fq_of (x:=x) (y:=y) (q:=(q:Int)) (r:= -(r:Int)) (by
      have h1:(y.natAbs:Int)= -y:=by omega
      rw [h1,Int.neg_mul] at e;omega) (.inr (by omega))
    exact ⟨this.1.symm,this.2.symm⟩
  · have hx : ¬ x < 0 := by simpa [hy0] using h
    rw [decide_eq_false hy0,sg_f]
    have:=fq_of (x:=x) (y:=y) (q:=(q:Int)) (r:=(r:Int)) (by
      have h1:(y.natAbs:Int)=y:=by omega
      rw [h1] at e;omega) (.inl (by omega))
    exact ⟨this.1.symm,this.2.symm⟩
theorem fq_even {x y:Int} (hy:y≠0) (h:¬decide (x<0)=decide (y<0)) (hr:x.natAbs%y.natAbs=0):sg true ((x.natAbs / y.natAbs:Nat):Int)=fq x y∧sg (decide (y<0)) ((x.natAbs%y.natAbs:Nat):Int)=fr x y:=by
  have e:=abs_split x y
  rw [hr] at e ⊢
  generalize x.natAbs / y.natAbs=q at*
  rw [sg_t,show sg (decide (y<0)) ((0:Nat):Int)=0 from sg_zero _]
  have hs:x=y*(-(q:Int))+0:=by
    rw [Int.mul_neg]
    by_cases hy0:y<0
    · have hx : ¬ x < 0 := by simpa [hy0] using h
      have h1:(y.natAbs:Int)= -y:=by omega
      rw [h1,Int.neg_mul] at e;omega
    · have hx : x < 0 := by simpa [hy0] using h
      have h1:(y.natAbs:Int)=y:=by omega
      rw [h1] at e;omega
  have:=fq_of hs (by omega)
  exact ⟨this.1.symm,this.2.symm⟩
theorem fq_odd {x y:Int} (hy:y≠0) (h:¬decide (x<0)=decide (y<0)) (hr:x.natAbs%y.natAbs≠0):sg true ((x.natAbs / y.natAbs+1:Nat):Int)=fq x y∧sg (decide (y<0)) ((y.natAbs - x.natAbs%y.natAbs:Nat):Int)=fr x y:=by
  have e:=abs_split x y
  have hlt:=Nat.mod_lt x.natAbs (show 0<y.natAbs by omega)
  generalize x.natAbs / y.natAbs=q at*
  generalize x.natAbs%y.natAbs=r at*
  rw [sg_t]
  by_cases hy0:y<0
  · have hx : ¬ x < 0 := by simpa [hy0] using h
    rw [decide_eq_true hy0,sg_t]
    have:=fq_of (x:=x) (y:=y) (q:= -((q+1:Nat):Int)) (r:= -((y.natAbs - r:Nat):Int)) (by
      have h1:(y.natAbs:Int)= -y:=by omega
      rw [h1,Int.neg_mul] at e
      rw [Int.mul_neg,Int.natCast_add,Int.mul_add];omega) (.inr (by omega))
    exact ⟨this.1.symm,this.2.symm⟩
  · have hx : x < 0 := by simpa [hy0] using h
    rw [decide_eq_false hy0,sg_f]
    have:=fq_of (x:=x) (y:=y) (q:= -((q+1:Nat):Int)) (r:=((y.natAbs - r:Nat):Int)) (by
      have h1:(y.natAbs:Int)=y:=by omega
      rw [h1] at e
      rw [Int.mul_neg,Int.natCast_add,Int.mul_add];omega) (.inl (by omega))
    exact ⟨this.1.symm,this.2.symm⟩
theorem fr_nonneg {x y:Int} (h:0<y):fq x y=x / y∧fr x y=x%y:=by
  have e:fq x y=x / y:=by unfold fq;rw [if_pos h]
  refine ⟨e,?_⟩
  unfold fr;rw [e]
  have:=Int.mul_ediv_add_emod x y;omega
theorem gcd_rest {a b:Nat}:Nat.gcd b (a%b)=Nat.gcd a b:=by rw [Nat.gcd_comm b,←Nat.gcd_rec,Nat.gcd_comm]
theorem ln_mono' {a b:Nat} (h:a≤b):(digs a).length≤(digs b).length:=by
  refine digs_len ?_
  have:=digs_lt b;omega
theorem len_mul_ge {a s:Nat} (h:1≤s):(digs a).length≤(digs (a*s)).length:=ln_mono' (Nat.le_mul_of_pos_right a h)
theorem len_mul_le (a s:Nat):(digs (a*s)).length≤(digs a).length+(digs s).length:=by
  refine digs_len ?_
  rw [Int.natCast_mul,pw_add]
  have h1:(a:Int)*s≤pw (digs a).length*s:=Int.mul_le_mul_of_nonneg_right (Int.le_of_lt (digs_lt a)) (by omega)
  have h2:pw (digs a).length*(s:Int)<pw (digs a).length*pw (digs s).length:=Int.mul_lt_mul_of_pos_left (digs_lt s) (pw_pos _)
  omega
theorem scale_len {b n:Nat} (hn:(digs b).length=n+1) {s:Nat} (hs:s=(1000000000 / ((digs b).getD n 0+1)).toNat):1≤s∧s≤500000000∧(digs (b*s)).length=n+1:=by
  have ht:=digs_top hn
  have ho:=okL_getD (digs_ok b) n
  have h1:1≤1000000000 / ((digs b).getD n 0+1):=by
    refine Int.le_ediv_of_mul_le (by omega) (by omega)
  have h2:1000000000 / ((digs b).getD n 0+1)≤500000000:=by
    refine Int.ediv_le_of_le_mul (by omega) (by omega)
  have hs1:(s:Int)=1000000000 / ((digs b).getD n 0+1):=by rw [hs];exact Int.toNat_of_nonneg (by omega)
  refine ⟨by omega,by omega,?_⟩
  have hge:=len_mul_ge (a:=b) (s:=s) (by omega)
  have hle:(digs (b*s)).length≤n+1:=by
    refine digs_len ?_
    have hv:=valL_digs b
    have hc:=valL_cut (digs b) n (by omega)
    have hd:valL ((digs b).drop n)=(digs b).getD n 0:=by rw [valL_drop,List.drop_eq_nil_of_le (by omega)];simp [valL]
    have hl:=valL_take_lt (digs_ok b) n
    rw [hd] at hc
    have hp:=pw_pos n
    have hb:(b:Int)<((digs b).getD n 0+1)*pw n:=by rw [Int.add_mul,Int.mul_comm _ (pw n)];omega
    have hm:((digs b).getD n 0+1)*(s:Int)≤1000000000:=by rw [hs1];exact Int.mul_ediv_self_le (by omega)
    rw [Int.natCast_mul,pw_succ]
    have h3:(b:Int)*s<((digs b).getD n 0+1)*pw n*s:=Int.mul_lt_mul_of_pos_right hb (by omega)
    have h4:((digs b).getD n 0+1)*pw n*s=((digs b).getD n 0+1)*s*pw n:=by ac_rfl
    have h5:((digs b).getD n 0+1)*(s:Int)*pw n≤1000000000*pw n:=mul_le_of (Int.le_of_lt hp) hm
    omega
  omega
theorem scale_div {a b s:Nat} (hs:1≤s):a*s / (b*s)=a / b∧a*s%(b*s) / s=a%b:=by
  refine ⟨Nat.mul_div_mul_right a b (by omega),?_⟩
  rw [Nat.mul_mod_mul_right,Nat.mul_div_cancel _ (by omega)]
theorem digs_one {s:Nat} (h1:1≤s) (h2:s<1000000000):digs s=[(s:Int)]:=by
  rw [digs_pos (by omega),Nat.mod_eq_of_lt h2,Nat.div_eq_of_lt h2,digs_zero]
theorem mul_lim3 {g x:Int} (h0:0≤g) (h1:g≤2000000000) (h2:0≤x) (h3:x<1000000000):0≤g*x∧g*x≤2000000000000000000:=by
  have a:=Int.mul_nonneg h0 h2
  have b:g*x≤2000000000*x:=mul_le_of h2 h1
  omega
theorem one_digit {b:Nat} (h:(digs b).length=1):(digs b).getD 0 0=(b:Int):=by
  have h1:=valL_cut (digs b) 0 (Nat.zero_le _)
  have h2:=valL_drop (digs b) 0
  rw [List.drop_eq_nil_of_le (show (digs b).length≤0+1 by omega)] at h2
  rw [valL_digs,h2] at h1
  simp [valL,pw_zero] at h1;exact h1.symm
theorem zsf {b:Nat} (h:0<b):1≤(digs b).length:=by
  refine Nat.pos_of_ne_zero fun e=> ?_
  have:=len_digs_nil.1 e;omega
theorem two_lt {a:Nat} (h:(digs a).length≤2):a<1000000000000000000:=by
  have h1:=digs_lt a
  have h2:=pw_mono h
  have:pw 2=1000000000000000000:=by decide
  omega
theorem word_step {A:List Int} (k:Nat):valL (A.drop (k+1))*1000000000+A.getD k 0=valL (A.drop k):=by rw [valL_drop A k];omega
theorem word_keep {a k:Nat} {z:Int} (h:k+1≤(digs a).length) (hz:z=valL ((digs a).drop (k+1))):(z*1000000000+(digs a).getD k 0)*pw k≤(a:Int):=by
  have h1:=valL_cut (digs a) k (by omega)
  rw [valL_digs,valL_drop,←hz] at h1
  have h2:=valL_take_lt (digs_ok a) k
  have:(z*1000000000+(digs a).getD k 0)*pw k=pw k*((digs a).getD k 0+1000000000*z):=by grind
  omega
theorem word_lim {a k:Nat} {z:Int} (hl:(digs a).length≤2) (h:k+1≤(digs a).length) (h0:0≤z) (hp:z*pw (k+1)≤(a:Int)):z<1000000000:=by
  have h1:=two_lt hl
  have h2:=pw_mono (show 1≤k+1 by omega)
  have h3:pw 1=1000000000:=by decide
  refine Decidable.byContradiction fun hc=> ?_
  have h4:1000000000*pw (k+1)≤z*pw (k+1):=mul_le_of (Int.le_of_lt (pw_pos _)) (by omega)
  omega
theorem cmp_b (x y:Int): -1≤cmp x y∧cmp x y≤1:=by unfold cmp;split <;> (try split) <;> decide
theorem cmp_of {x y u v:Int} (h1:x<y↔u<v) (h2:y<x↔v<u):cmp x y=cmp u v:=by
  unfold cmp;simp only [h1,h2]
theorem cmp_flip (x y:Int): - cmp x y=cmp y x:=by
  unfold cmp
  by_cases h1:x<y
  · rw [if_pos h1,if_neg (by omega),if_pos h1];rfl
  · by_cases h2 : y < x
    · rw [if_neg h1,if_pos h2,if_pos h2]
    · rw [if_neg h1,if_neg h2,if_neg h2,if_neg h1];rfl
theorem sign_le {x:Int}:(x<0∧x.sign= -1)∨(x=0∧x.sign=0)∨(0<x∧x.sign=1):=by
  rcases Int.lt_trichotomy x 0 with h|h|h
  · exact .inl ⟨h,Int.sign_eq_neg_one_of_neg h⟩
  · exact .inr (.inl ⟨h,by rw [h];rfl⟩)
  · exact .inr (.inr ⟨h,Int.sign_eq_one_of_pos h⟩)
theorem cmp_signs {x y:Int} (h:x.sign≠y.sign):cmp x y=cmp x.sign y.sign:=by
  have h1:=sign_le (x:=x);have h2:=sign_le (x:=y)
  exact cmp_of (by omega) (by omega)
theorem cmp_neg {x y:Int} (h:¬x.sign≠y.sign) (hx:x<0):cmp x y= - cmp (x.natAbs:Int) (y.natAbs:Int):=by
  have h1:=sign_le (x:=x);have h2:=sign_le (x:=y)
  rw [cmp_flip];exact cmp_of (by omega) (by omega)
theorem cmp_pos {x y:Int} (h:¬x.sign≠y.sign) (hx:¬x<0):cmp x y=cmp (x.natAbs:Int) (y.natAbs:Int):=by
  have h1:=sign_le (x:=x);have h2:=sign_le (x:=y)
  exact cmp_of (by omega) (by omega)
end Go.Proofs.YtjcpbhlijoigfaaGreat.Big
namespace Go.Proofs.YtjcpbhlijoigfaaGreat.Big
structure ScI (A:List Int) (d:Int) (i:Nat) (os:List Int) (cy:Int):Prop where
  le:i≤A.length
  len:os.length=i
  ok:okL os
  c0:0≤cy
  c1:cy<1000000000
  val:valL os+pw i*cy=valL (A.take i)*d
theorem ScI.start (A:List Int) (d:Int):ScI A d 0 [] 0:=⟨Nat.zero_le _,rfl,okL_nil,by decide,by decide,by simp [valL]⟩
theorem sc_lim {x d cy:Int} (hx:0≤x∧x<1000000000) (hd:0≤d∧d<1000000000) (hc:0≤cy∧cy<1000000000):0≤x*d∧x*d+cy<1000000000000000000∧0≤(x*d+cy) / 1000000000∧(x*d+cy) / 1000000000<1000000000:=by
  have:=mul_lim hx hd;omega
theorem ScI.step {A:List Int} {d:Int} {i:Nat} {os:List Int} {cy:Int} (h:ScI A d i os cy) (hA:okL A) (hd:0≤d∧d<1000000000) (hi:i<A.length):
    ScI A d (i+1) (os++[(A.getD i 0*d+cy)%1000000000]) ((A.getD i 0*d+cy) / 1000000000):=by
  have hl:=sc_lim (okL_getD hA i) hd ⟨h.c0,h.c1⟩
  refine ⟨by omega,by simp [h.len],okL_snoc h.ok (by omega) (by omega),hl.2.2.1,hl.2.2.2,?_⟩
  rw [valL_snoc,h.len,valL_take_succ,pw_succ]
  have e:=h.val
  have hs:(A.getD i 0*d+cy)=1000000000*((A.getD i 0*d+cy) / 1000000000)+(A.getD i 0*d+cy)%1000000000:=by omega
  generalize (A.getD i 0*d+cy) / 1000000000=q at*
  generalize (A.getD i 0*d+cy)%1000000000=r at*
  have h2:pw i*(A.getD i 0*d+cy)=pw i*(1000000000*q+r):=by rw [hs]
  generalize A.getD i 0=x at*
  generalize valL os=a at*
  generalize valL (A.take i)=b at*
  generalize pw i=p at*
  grind
theorem ScI.fin {a d i:Nat} {os:List Int} {cy:Int} (h:ScI (digs a) (d:Int) i os cy) (hi:(digs a).length≤i):okL (os++[cy])∧valL (os++[cy])=((a*d:Nat):Int):=by
  refine ⟨okL_snoc h.ok h.c0 h.c1,?_⟩
  rw [valL_snoc,h.len,h.val,List.take_of_length_le hi,valL_digs,Int.natCast_mul]
theorem pair_val {a:Nat} (h:(digs a).length≤2):(digs a).getD 1 0*1000000000+(digs a).getD 0 0=(a:Int):=by
  have h0:=valL_drop (digs a) 0
  have h1:=valL_drop (digs a) 1
  rw [List.drop_zero,valL_digs] at h0
  have h2:valL ((digs a).drop 2)=0:=by rw [List.drop_eq_nil_of_le h];rfl
  simp only [Nat.zero_add,Nat.reduceAdd] at h0 h1
  omega
theorem two_val {u:Nat} (h:u<1000000000000000000):okL [((u%1000000000:Nat):Int),((u / 1000000000:Nat):Int)]∧valL [((u%1000000000:Nat):Int),((u / 1000000000:Nat):Int)]=(u:Int):=by
  refine ⟨okL_cons.2 ⟨by omega,okL_cons.2 ⟨by omega,okL_nil⟩⟩,?_⟩
  simp only [valL];omega
theorem valL_cut' (A:List Int) (k:Nat):valL A=valL (A.take k)+pw k*valL (A.drop k):=by
  by_cases h:k≤A.length
  · exact valL_cut A k h
  · rw [List.drop_eq_nil_of_le (by omega),List.take_of_length_le (by omega)];simp [valL]
structure PtI (A V:Nat) (j:Nat) (qs:List Int) (R:Nat):Prop where
  le:j≤(digs A).length
  ok:okL qs
  val:valL ((digs A).drop j)=valL qs*V+R
  lt:R<V
theorem PtI.start {A V n j R:Nat} (hV:(digs V).length=n+1) (hj:j+n=(digs A).length) (hR:valL ((digs A).drop j)=(R:Int)):PtI A V j [] R:=by
  refine ⟨by omega,okL_nil,by rw [hR];simp [valL],?_⟩
  have h1:=valL_lt (okL_drop (digs_ok A) j)
  rw [hR,List.length_drop,show (digs A).length - j=n by omega] at h1
  have h2:=digs_low (k:=n) (n:=V) (by omega)
  omega
theorem pt_lim {V R d:Nat} (h:R<V) (hd:d<1000000000):R*1000000000+d<V*1000000000:=by omega
theorem PtI.step {A V j:Nat} {qs:List Int} {R d g r:Nat} (h:PtI A V (j+1) qs R) (hd:(digs A).getD j 0=(d:Int)) (hg:r+V*g=R*1000000000+d) (hr:r<V):PtI A V j ((g:Int) :: qs) r:=by
  have hd1:=okL_getD (digs_ok A) j
  have hgl:g<1000000000:=by
    have h1:=pt_lim h.lt (show d<1000000000 by omega)
    exact Nat.lt_of_mul_lt_mul_left (a:=V) (by omega)
  refine ⟨Nat.le_of_succ_le h.le,okL_cons.2 ⟨by omega,h.ok⟩,?_,hr⟩
  rw [valL_drop,h.val,hd]
  simp only [valL]
  have hg2:(r:Int)+(V:Int)*(g:Int)=(R:Int)*1000000000+(d:Int):=by
    rw [← Int.natCast_mul];omega
  generalize valL qs=q at*
  grind
theorem pt_guess {W V m d:Nat} (hW:W<V*1000000000) (hV:(digs V).length=m+1) (hd:(d:Int)=((digs W).getD (m+1) 0*1000000000+(digs W).getD m 0) / ((digs V).getD m 0+1)):V*d≤W∧d<1000000000:=by
  have hw:=valL_cut' (digs W) m
  have hv:=valL_cut' (digs V) m
  rw [valL_digs] at hw hv
  have h1:=valL_drop (digs W) m
  have h2:=valL_drop (digs W) (m+1)
  have h3:=valL_nonneg (okL_drop (digs_ok W) (m+1+1))
  have h4:=valL_drop (digs V) m
  rw [List.drop_eq_nil_of_le (by omega:(digs V).length≤m+1)] at h4
  have h5:=valL_take_lt (digs_ok W) m
  have h6:=valL_take_lt (digs_ok V) m
  have h7:=okL_getD (digs_ok V) m
  have hp:=pw_pos m
  have h8:valL ([]:List Int)=0:=rfl
  have h9:=Int.mul_ediv_self_le (x:=(digs W).getD (m+1) 0*1000000000+(digs W).getD m 0) (k:=(digs V).getD m 0+1) (by omega)
  rw [← hd] at h9
  have key:(V:Int)*(d:Int)≤(W:Int):=by
    have a1:(V:Int)≤((digs V).getD m 0+1)*pw m:=by
      rw [h8,Int.mul_zero,Int.add_zero] at h4;rw [hv,h4,Int.add_mul,Int.one_mul,Int.mul_comm (pw m)];omega
    have a2:((digs W).getD (m+1) 0*1000000000+(digs W).getD m 0)*pw m≤(W:Int):=by
      have:(digs W).getD (m+1) 0*1000000000+(digs W).getD m 0≤valL ((digs W).drop m):=by omega
      have:=mul_le_of (Int.le_of_lt hp) this
      rw [Int.mul_comm (valL _)] at this;omega
    have a3:=mul_le_of (w:=(d:Int)) (by omega) a1
    have a4:=mul_le_of (Int.le_of_lt hp) h9
    have a5:((digs V).getD m 0+1)*pw m*(d:Int)=((digs V).getD m 0+1)*(d:Int)*pw m:=by grind
    omega
  have k2:V*d≤W:=by rw [← Int.natCast_mul] at key;omega
  exact ⟨k2,Nat.lt_of_mul_lt_mul_left (a:=V) (by omega)⟩
theorem PtI.fin {A V:Nat} {qs:List Int} {R:Nat} (h:PtI A V 0 qs R):valL qs=((A / V:Nat):Int)∧R=A%V:=by
  have h0:=h.val
  rw [List.drop_zero,valL_digs] at h0
  have hn:=valL_nonneg h.ok
  have hl:=h.lt
  obtain ⟨q,hq⟩:∃q:Nat,valL qs=(q:Int):=⟨(valL qs).toNat,by omega⟩
  rw [hq,←Int.natCast_mul] at h0
  have h1:A=R+V*q:=by rw [Nat.mul_comm];omega
  rw [hq,h1,Nat.add_mul_div_left _ _ (by omega),Nat.div_eq_of_lt hl,Nat.add_mul_mod_self_left,Nat.mod_eq_of_lt hl]
  simp
theorem pt_wlen {W V m:Nat} (hW:W<V*1000000000) (hV:(digs V).length=m+1):(digs W).length≤m+2:=by
  refine digs_len ?_
  have h1:=digs_lt V
  rw [hV] at h1
  rw [pw_succ];omega
theorem made_nat {l:List Int} {n:Nat} (ho:okL l) (h:valL l=(n:Int)):(sg false (valL l)).natAbs=n:=by
  rw [sg_abs (valL_nonneg ho),h];exact Int.toNat_natCast _
theorem ln_fq {x y:Int} (hy:y≠0):ln (fq x y)≤ln x+2:=by
  have key:(fq x y).natAbs≤x.natAbs+1:=by
    have hd:=Nat.div_le_self x.natAbs y.natAbs
    by_cases h:decide (x<0)=decide (y<0)
    · rw [← (fq_same hy h).1,sg_f,Int.natAbs_natCast];omega
    · by_cases hr : x.natAbs % y.natAbs = 0
      · rw [← (fq_even hy h hr).1,sg_t,Int.natAbs_neg,Int.natAbs_natCast];omega
      · rw [← (fq_odd hy h hr).1,sg_t,Int.natAbs_neg,Int.natAbs_natCast];omega
  unfold ln
  have h1:=ln_mono' key
  have h2:=len_add x.natAbs 1
  have h3:(digs 1).length=1:=by decide
  omega
end Go.Proofs.YtjcpbhlijoigfaaGreat.Big
namespace Go.Proofs.YtjcpbhlijoigfaaGreat.Big
abbrev RQ:=(Bool×List Int)×(Bool×List Int)
def qok (x:RQ):Prop:=canon x.1.1 x.1.2∧canon x.2.1 x.2.2∧0<raw x.2.1 x.2.2∧Nat.gcd (raw x.1.1 x.1.2).natAbs (raw x.2.1 x.2.2).natAbs=1
instance (x:RQ):Decidable (qok x):=inferInstanceAs (Decidable (_∧_))
def qv (x:RQ):Rat:=if qok x then Rat.divInt (raw x.1.1 x.1.2) (raw x.2.1 x.2.2) else 0
theorem divInt_parts {n d:Int} (hd:d≠0):(Rat.divInt n d).num=d.sign*n / (Nat.gcd n.natAbs d.natAbs:Nat)∧((Rat.divInt n d).den:Int)=((d.natAbs / Nat.gcd n.natAbs d.natAbs:Nat):Int):=by
  rw [Rat.num_divInt,Rat.den_divInt,if_neg hd]
  have:Int.gcd d n=Nat.gcd n.natAbs d.natAbs:=by unfold Int.gcd;rw [Nat.gcd_comm]
  rw [this];exact ⟨rfl,rfl⟩
theorem qv_parts {x:RQ} (h:qok x):(qv x).num=raw x.1.1 x.1.2∧((qv x).den:Int)=raw x.2.1 x.2.2:=by
  unfold qv;rw [if_pos h]
  obtain ⟨_,_,h3,h4⟩:=h
  obtain ⟨e1,e2⟩:=divInt_parts (n:=raw x.1.1 x.1.2) (d:=raw x.2.1 x.2.2) (by omega)
  rw [e1,e2,h4,Int.sign_eq_one_of_pos h3]
  refine ⟨by simp,by rw [Nat.div_one];omega⟩
theorem qv_not {x:RQ} (h:¬qok x):qv x=0:=by unfold qv;rw [if_neg h]
def rq (q:Rat):RQ:=((decide (q.num<0),digs q.num.natAbs),(decide ((q.den:Int)<0),digs (q.den:Int).natAbs))
theorem rq_ok (q:Rat):qok (rq q):=by
  refine ⟨canon_digs _,canon_digs _,?_,?_⟩
  · simp only [rq];rw [raw_big];have:=q.den_pos;omega
  · simp only [rq];rw [raw_big,raw_big,Int.natAbs_natCast];exact q.reduced
theorem rq_v (q:Rat):qv (rq q)=q:=by
  obtain ⟨h1,h2⟩:=qv_parts (rq_ok q)
  refine Rat.ext ?_ ?_
  · rw [h1];simp only [rq];rw [raw_big]
  · have : ((qv (rq q)).den : Int) = (q.den : Int) := by rw [h2]; simp only [rq]; rw [raw_big]
    omega
def hq (q:Rat):Nat:=max (ln q.num) (ln (q.den:Int))
theorem hq_num (q:Rat):ln q.num≤hq q:=Nat.le_max_left _ _
theorem hq_den (q:Rat):ln (q.den:Int)≤hq q:=Nat.le_max_right _ _
theorem hq_divInt {n d:Int} (hd:d≠0):hq (Rat.divInt n d)≤max (ln n) (ln d):=by
  obtain ⟨e1,e2⟩:=divInt_parts (n:=n) hd
  unfold hq
  rw [e1,e2]
  have h1:ln (d.sign*n / (Nat.gcd n.natAbs d.natAbs:Nat))≤ln n:=by
    refine zje ?_
    refine Nat.le_trans (Int.natAbs_ediv_le_natAbs _ _) ?_
    rw [Int.natAbs_mul,Int.natAbs_sign_of_ne_zero hd,Nat.one_mul];exact Nat.le_refl _
  have h2:ln ((d.natAbs / Nat.gcd n.natAbs d.natAbs:Nat):Int)≤ln d:=by
    refine zje ?_
    rw [Int.natAbs_natCast];exact Nat.div_le_self _ _
  omega
theorem den_ne (q:Rat):(q.den:Int)≠0:=by have:=q.den_pos;omega
theorem add_parts (x y:Rat):x+y=Rat.divInt (x.num*y.den+y.num*x.den) (x.den*y.den):=by
  rw [Rat.add_def',←Int.natCast_mul,Rat.divInt_ofNat]
theorem mul_parts (x y:Rat):x*y=Rat.divInt (x.num*y.num) (x.den*y.den):=by
  rw [Rat.mul_def',←Int.natCast_mul,Rat.divInt_ofNat]
theorem div_parts {x y:Rat} (hy:y.num≠0):x / y=Rat.divInt (x.num*y.den) (x.den*y.num):=by
  rw [Rat.div_def,Rat.inv_def,←Rat.num_divInt_den x,Rat.divInt_mul_divInt,Rat.num_divInt_den]
theorem hq_add (x y:Rat):hq (x+y)≤hq x+hq y+1:=by
  rw [add_parts]
  refine Nat.le_trans (hq_divInt (Int.mul_ne_zero (den_ne x) (den_ne y))) ?_
  have h1:=zVc (x.num*y.den) (y.num*x.den)
  have h2:=zHa x.num y.den;have h3:=zHa y.num x.den;have h4:=zHa x.den y.den
  have a:=hq_num x;have b:=hq_den x;have c:=hq_num y;have d:=hq_den y
  omega
theorem hq_mul (x y:Rat):hq (x*y)≤hq x+hq y:=by
  rw [mul_parts]
  refine Nat.le_trans (hq_divInt (Int.mul_ne_zero (den_ne x) (den_ne y))) ?_
  have h2:=zHa x.num y.num;have h4:=zHa x.den y.den
  have a:=hq_num x;have b:=hq_den x;have c:=hq_num y;have d:=hq_den y
  omega
theorem num_ne {y:Rat} (h:y≠0):y.num≠0:=fun e=>h (Rat.num_eq_zero.1 e)
theorem hq_div (x:Rat) {y:Rat} (hy:y≠0):hq (x / y)≤hq x+hq y:=by
  rw [div_parts (num_ne hy)]
  refine Nat.le_trans (hq_divInt (Int.mul_ne_zero (den_ne x) (num_ne hy))) ?_
  have h2:=zHa x.num y.den;have h4:=zHa x.den y.num
  have a:=hq_num x;have b:=hq_den x;have c:=hq_num y;have d:=hq_den y
  omega
theorem hq_neg (x:Rat):hq (-x)=hq x:=by unfold hq;rw [Rat.neg_num,Rat.neg_den,zS]
theorem hq_sub (x y:Rat):hq (x - y)≤hq x+hq y+1:=by
  rw [Rat.sub_eq_add_neg];have:=hq_add x (-y);rw [hq_neg] at this;exact this
theorem ln_one:ln 1=1:=by decide
theorem hq_int (z:Int):hq (z:Rat)≤max (ln z) 1:=by
  unfold hq;rw [Rat.num_intCast,Rat.den_intCast];exact Nat.le_of_eq (by rw [show ((1:Nat):Int)=1 from rfl,ln_one])
theorem hq_zero:hq 0=1:=by decide
theorem hq_64 {z:Int} (h1: -9223372036854775808≤z) (h2:z≤9223372036854775807):hq (z:Rat)≤3:=by
  have:=zNd h1 h2;have:=hq_int z;omega
theorem gcd_pos_right {n d:Int} (hd:d≠0):0<Nat.gcd n.natAbs d.natAbs:=Nat.gcd_pos_of_pos_right _ (by omega)
theorem red_pos {n d:Int} (hd:0<d):fq n (Nat.gcd n.natAbs d.natAbs:Nat)=(Rat.divInt n d).num∧fq d (Nat.gcd n.natAbs d.natAbs:Nat)=((Rat.divInt n d).den:Int):=by
  obtain ⟨e1,e2⟩:=divInt_parts (n:=n) (d:=d) (by omega)
  have hg:=gcd_pos_right (n:=n) (d:=d) (by omega)
  rw [e1,e2,Int.sign_eq_one_of_pos hd,Int.one_mul]
  rw [(fr_nonneg (x:=n) (y:=(Nat.gcd n.natAbs d.natAbs:Nat)) (by omega)).1,(fr_nonneg (x:=d) (y:=(Nat.gcd n.natAbs d.natAbs:Nat)) (by omega)).1]
  refine ⟨rfl,?_⟩
  rw [Int.natCast_ediv,Int.natAbs_of_nonneg (by omega)]
theorem red_flip {n d:Int} (hd:d<0):fq (-n) (Nat.gcd (-n).natAbs (-d).natAbs:Nat)=(Rat.divInt n d).num∧fq (-d) (Nat.gcd (-n).natAbs (-d).natAbs:Nat)=((Rat.divInt n d).den:Int):=by
  have:=red_pos (n:= -n) (d:= -d) (by omega)
  rw [Rat.neg_divInt_neg] at this;exact this
theorem fq_negneg (x y:Int) (hy:y≠0):fq x (-y)=fq (-x) y:=by
  unfold fq
  by_cases h:0<y
  · rw [if_neg (by omega),if_pos h,Int.neg_neg]
  · rw [if_pos (by omega),if_neg h,Int.neg_neg]
theorem red_neg {n d:Int} (hd:d<0):fq n (-(Nat.gcd n.natAbs d.natAbs:Nat))=(Rat.divInt n d).num∧fq d (-(Nat.gcd n.natAbs d.natAbs:Nat))=((Rat.divInt n d).den:Int):=by
  have hg:=gcd_pos_right (n:=n) (d:=d) (by omega)
  rw [fq_negneg _ _ (by omega),fq_negneg _ _ (by omega)]
  have:=red_flip (n:=n) hd
  rw [Int.natAbs_neg,Int.natAbs_neg] at this;exact this
def sgq (q:Rat):Int:=q.num.sign
theorem cmp_sub (a b:Int):cmp a b=(a - b).sign:=by
  unfold cmp
  split
  · rw [Int.sign_eq_neg_one_of_neg (by omega)]
  · split
    · rw [Int.sign_eq_one_of_pos (by omega)]
    · rw [show a - b=0 by omega];rfl
theorem sgq_zero {x:Rat}:sgq x=0↔x=0:=by unfold sgq;rw [Int.sign_eq_zero_iff_zero,Rat.num_eq_zero]
theorem sgq_sub_zero {x y:Rat}:sgq (x - y)=0↔x=y:=by
  rw [sgq_zero]
  constructor
  · intro h;grind
  · intro h;grind
theorem sgq_rng (x:Rat): -1≤sgq x∧sgq x≤1:=by
  unfold sgq
  rcases Int.lt_trichotomy x.num 0 with h|h|h
  · rw [Int.sign_eq_neg_one_of_neg h];decide
  · rw [h];decide
  · rw [Int.sign_eq_one_of_pos h];decide
theorem cmp_zero {x y:Int}:cmp x y=0↔x=y:=by
  unfold cmp;split
  · omega
  · split <;> omega
theorem qok_gcd {x:RQ} (h:canon x.1.1 x.1.2∧canon x.2.1 x.2.2∧0<raw x.2.1 x.2.2):cmp ((Nat.gcd (raw x.1.1 x.1.2).natAbs (raw x.2.1 x.2.2).natAbs:Nat):Int) 1=0↔qok x:=by
  rw [cmp_zero];exact ⟨fun e=>⟨h.1,h.2.1,h.2.2,by omega⟩,fun e=>by have:=e.2.2.2;omega⟩
theorem sgn_le {c d:Prop} {z:Int} (hc:c) (hd:d):z.sign≤0↔¬(c∧d∧0<z):=by
  rcases Int.lt_trichotomy z 0 with h|h|h
  · rw [Int.sign_eq_neg_one_of_neg h];exact ⟨fun _ k=>by omega,fun _=>by decide⟩
  · rw [h];exact ⟨fun _ k=>by omega,fun _=>by decide⟩
  · rw [Int.sign_eq_one_of_pos h];exact ⟨fun k=>by omega,fun k=>absurd ⟨hc,hd,h⟩ k⟩
theorem raw_parts {x:RQ} (h1:nn x.1.2) (h2:nn x.2.2) (h:qok x):decide ((qv x).num<0)=x.1.1∧digs (qv x).num.natAbs=x.1.2∧decide (((qv x).den:Int)<0)=x.2.1∧digs (((qv x).den:Nat):Int).natAbs=x.2.2:=by
  obtain ⟨e1,e2⟩:=qv_parts h
  have d1:=raw_digs (s:=x.1.1) h1;have d2:=raw_digs (s:=x.2.1) h2
  rw [if_pos h.1] at d1;rw [if_pos h.2.1] at d2
  rw [e1,e2]
  exact ⟨raw_sign h1 h.1,d1,raw_sign h2 h.2.1,d2⟩
theorem zPd {n d:Int} (hd:d≠0):ln (Nat.gcd n.natAbs d.natAbs:Nat)≤ln d:=by
  refine zje ?_
  rw [Int.natAbs_natCast];exact Nat.gcd_le_right _ (by omega)
theorem divInt_nil {n d:Int} (hd:d=0):Rat.divInt n d=0:=by rw [hd,Rat.divInt_zero]
theorem div_nil {x y:Rat} (hy:y=0):x / y=0:=by rw [hy,Rat.div_def,Rat.inv_zero,Rat.mul_zero]
theorem sign_zero {z:Int}:z.sign=0↔z=0:=Int.sign_eq_zero_iff_zero
theorem qok_sub {x:RQ} (h:canon x.1.1 x.1.2∧canon x.2.1 x.2.2∧0<raw x.2.1 x.2.2):(((Nat.gcd (raw x.1.1 x.1.2).natAbs (raw x.2.1 x.2.2).natAbs:Nat):Int) - 1).sign=0↔qok x:=by
  rw [← cmp_sub];exact qok_gcd h
end Go.Proofs.YtjcpbhlijoigfaaGreat.Big
namespace Go.Proofs.YtjcpbhlijoigfaaGreat.Sp
open Go
set_option linter.unusedVariables false
def Wd.raw (g:Hp) (w:Wd) (x:Bool×List Int):Prop:=w.s=x.1∧w.n=x.2.length∧x.2.length≤1048576∧Sl (rI .u32) g w.p w.c x.2
theorem Wd.raw_mono {g g':Hp} {w:Wd} {x:Bool×List Int} (h:g.le g') (k:w.raw g x):w.raw g' x:=⟨k.1,k.2.1,k.2.2.1,k.2.2.2.mono h⟩
def qF (c:Bool) (u v:Wd) (q:Rat):Fa:=⟨fun g=>∃x:Big.RQ,u.raw g x.1∧v.raw g x.2∧Big.qv x=q∧(c=true→Big.qok x),fun _ _ h ⟨x,a,b,d⟩=>⟨x,Wd.raw_mono h a,Wd.raw_mono h b,d⟩⟩
theorem Sl.nn {g:Hp} {p:Option Addr} {c:Nat} {l:List Int} (h:Sl (rI .u32) g p c l):Big.nn l:=fun d hd=>by
  obtain ⟨j,hj⟩:=List.getElem?_of_mem hd
  obtain ⟨_,_,_,_,_,e⟩:=h.2.2.2 j d hj
  exact (zG.1 e).1
theorem Wd.raw_is {g:Hp} {w:Wd} {x:Bool×List Int} (h:w.raw g x) (hc:Big.canon x.1 x.2):w.is g (Big.raw x.1 x.2):=by
  have hn:=h.2.2.2.nn
  have hd:=Big.raw_digs (s:=x.1) hn
  rw [if_pos hc] at hd
  exact ⟨h.1.trans (Big.raw_sign hn hc).symm,by rw [hd];exact h.2.1,by rw [hd];exact h.2.2.2⟩
theorem Wd.is_raw {g:Hp} {w:Wd} {z:Int} (h:w.is g z) (hl:Big.ln z≤1048576):w.raw g (decide (z<0),yd z.natAbs):=⟨h.1,h.2.1,hl,h.2.2⟩
section
variable {P : Program} {c : Cx} {n : Sz} {Q : Exit → Act → World → Prop} {m : Fm} {O : List As} {R : List Fa} {f : Nat} {u v : Wd} {q : Rat}
theorem qF_parts {g:Hp} (h:(qF true u v q).on g):u.is g q.num∧v.is g (q.den:Int):=by
  obtain ⟨x,a,b,e,ok⟩:=h
  have hk:=ok rfl
  obtain ⟨e1,e2⟩:=Big.qv_parts hk
  rw [← e,e1,e2]
  exact ⟨Wd.raw_is a hk.1,Wd.raw_is b hk.2.1⟩
theorem qF_open (i:Nat) (hi:R[i]? =some (qF true u v q)):∀g,Holds g R→∃x:Unit,True∧Holds g [zF u q.num,zF v (q.den:Int)]:=fun g h=>
  ⟨(),trivial,(qF_parts (Holds.get i hi h)).1,(qF_parts (Holds.get i hi h)).2,trivial⟩
theorem qF_make {g:Hp} (h1:u.is g q.num) (h2:v.is g (q.den:Int)) (hl:Big.hq q≤1048576):(qF true u v q).on g:=
  ⟨Big.rq q,Wd.is_raw h1 (Nat.le_trans (Big.hq_num q) hl),Wd.is_raw h2 (Nat.le_trans (Big.hq_den q) hl),Big.rq_v q,fun _=>Big.rq_ok q⟩
theorem qF_close (i j:Nat) {a b:Int} (hi:R[i]? =some (zF u a)) (hj:R[j]? =some (zF v b)) (h:a=q.num∧b=(q.den:Int)∧Big.hq q≤1048576):∀g,Holds g R→(qF true u v q).on g:=fun g r=>by
  have h1:u.is g a:=Holds.get i hi r
  have h2:v.is g b:=Holds.get j hj r
  rw [h.1] at h1;rw [h.2.1] at h2
  exact qF_make h1 h2 h.2.2
theorem qF_len {g:Hp} {k:Bool} (h:(qF k u v q).on g):Big.hq q≤1048576:=by
  obtain ⟨x,a,b,e,ok⟩:=h
  by_cases hk:Big.qok x
  · obtain ⟨e1, e2⟩ := Big.qv_parts hk
    rw [← e]
    unfold Big.hq Big.ln
    rw [e1,e2]
    have h1:=Big.raw_digs (s:=x.1.1) a.2.2.2.nn
    have h2:=Big.raw_digs (s:=x.2.1) b.2.2.2.nn
    rw [if_pos hk.1] at h1;rw [if_pos hk.2.1] at h2
    rw [h1,h2]
    have:=a.2.2.1;have:=b.2.2.1;omega
  · rw [Big.qv_not hk] at e
    rw [← e,Big.hq_zero];omega
theorem qF_none (g:Hp):(qF false wz wz 0).on g:=⟨((false,[]),(false,[])),⟨rfl,rfl,by decide,Sl.nil _ _⟩,⟨rfl,rfl,by decide,Sl.nil _ _⟩,by decide +kernel,fun h=>by cases h⟩
abbrev rawL (p:Option Addr) (c:Nat) (x:Bool×List Int):List Value:=[.bool x.1,.slice p x.2.length c]
theorem Wd.rawL_eq {g:Hp} {w:Wd} {x:Bool×List Int} (h:w.raw g x):[w.b,w.l]=rawL w.p w.c x:=by rw [Wd.b,Wd.l,h.1,h.2.1]
theorem zqg {k:Bool} {Y:Type} {φ:Y→Prop} {val:Y→Value} {O':Y→List As} {R':Y→List Fa}
    (h:∀(x:Big.RQ),Big.qv x=q→(k=true→Big.qok x)→x.1.2.length≤1048576→x.2.2.length≤1048576→Con P f [.agg #[.bool x.1.1,.slice u.p x.1.2.length u.c,.bool x.2.1,.slice v.p x.2.2.length v.c]] O [slF (rI .u32) u.p u.c x.1.2,slF (rI .u32) v.p v.c x.2.2] φ val O' R'):
    Con P f [.agg #[u.b,u.l,v.b,v.l]] O [qF k u v q] φ val O' R':=
  Con.of (X:=Big.RQ) (ψ:=fun x=>Big.qv x=q∧(k=true→Big.qok x)∧x.1.2.length≤1048576∧x.2.2.length≤1048576) (A2:=fun x=>[.agg #[.bool x.1.1,.slice u.p x.1.2.length u.c,.bool x.2.1,.slice v.p x.2.2.length v.c]]) (R2:=fun x=>[slF (rI .u32) u.p u.c x.1.2,slF (rI .u32) v.p v.c x.2.2])
    (fun x hx=>h x hx.1 hx.2.1 hx.2.2.1 hx.2.2.2) fun g r=>by
      obtain ⟨x,a,b,e,ok⟩:=r.1
      refine ⟨x,⟨e,ok,a.2.2.1,b.2.2.1⟩,?_,a.2.2.2,b.2.2.2,trivial⟩
      have h1:=Wd.rawL_eq a;have h2:=Wd.rawL_eq b
      simp only [rawL,List.cons.injEq,and_true] at h1 h2
      rw [h1.1,h1.2,h2.1,h2.2]
theorem ztf {k:Bool} {Y:Type} {φ:Y→Prop} {val:Y→Value} {O':Y→List As} {R':Y→List Fa}
    (h:∀(x:Big.RQ),Big.qv x=q→(k=true→Big.qok x)→x.1.2.length≤1048576→x.2.2.length≤1048576→Big.hq q≤1048576→Con P f [.agg #[.bool x.1.1,.slice u.p x.1.2.length u.c,.bool x.2.1,.slice v.p x.2.2.length v.c]] O [slF (rI .u32) u.p u.c x.1.2,slF (rI .u32) v.p v.c x.2.2] φ val O' R'):
    Con P f [.agg #[u.b,u.l,v.b,v.l]] O [qF k u v q] φ val O' R':=fun w hh g s r ap h1 h2=>
  zqg (fun x a b c d=>h x a b c d (qF_len r.1)) w hh g s r ap h1 h2
theorem con_qr {A:List Value} {z d:Int} (h:Con P f A O R (Y:=Option Addr×Nat×Option Addr×Nat) (fun _=>True) (fun y=> .agg #[.bool (decide (z<0)),.slice y.1 (yd z.natAbs).length y.2.1,.bool (decide (d<0)),.slice y.2.2.1 (yd d.natAbs).length y.2.2.2]) (fun _=>[]) (fun y=>[bigS z y.1 y.2.1,bigS d y.2.2.1 y.2.2.2]))
    (hz:z=q.num) (hd:d=(q.den:Int)) (hl:Big.hq q≤1048576):Con P f A O R (Y:=Wd×Wd) (fun _=>True) (fun w=> .agg #[w.1.b,w.1.l,w.2.b,w.2.l]) (fun _=>[]) (fun w=>[qF true w.1 w.2 q]):=
  h.told (fun y=>(⟨decide (z<0),y.1,(yd z.natAbs).length,y.2.1⟩,⟨decide (d<0),y.2.2.1,(yd d.natAbs).length,y.2.2.2⟩)) (fun _=>rfl) (fun _ _=>trivial) (fun _=>rfl)
    (fun y _ g r=>⟨qF_make (q:=q) ⟨by rw [hz],by rw [hz],hz ▸ r.1⟩ ⟨by rw [hd],by rw [hd],hd ▸ r.2.1⟩ hl,trivial⟩)
theorem zuf {A:List Value} {z d:Int} {k:Value} (h:Con P f A O R (Y:=Option Addr×Nat×Option Addr×Nat) (fun _=>True) (fun y=> .tuple #[.agg #[.bool (decide (z<0)),.slice y.1 (yd z.natAbs).length y.2.1],.agg #[.bool (decide (d<0)),.slice y.2.2.1 (yd d.natAbs).length y.2.2.2],k]) (fun _=>[]) (fun y=>[bigS z y.1 y.2.1,bigS d y.2.2.1 y.2.2.2])):
    Con P f A O R (Y:=Wd×Wd) (fun _=>True) (fun w=> .tuple #[.agg #[w.1.b,w.1.l],.agg #[w.2.b,w.2.l],k]) (fun _=>[]) (fun w=>[zF w.1 z,zF w.2 d]):=
  h.told (fun y=>(⟨decide (z<0),y.1,(yd z.natAbs).length,y.2.1⟩,⟨decide (d<0),y.2.2.1,(yd d.natAbs).length,y.2.2.2⟩)) (fun _=>rfl) (fun _ _=>trivial) (fun _=>rfl)
    (fun y _ g r=>⟨⟨rfl,rfl,r.1⟩,⟨rfl,rfl,r.2.1⟩,trivial⟩)
theorem qF_rawI {s t:Bool} {p1 p2:Option Addr} {n1 c1 n2 c2:Nat} {l1 l2:List Int} (i j:Nat) (hi:R[i]? =some (slF (rI .u32) p1 c1 l1)) (hj:R[j]? =some (slF (rI .u32) p2 c2 l2)) (hn1:l1.length=n1) (hn2:l2.length=n2) (hm1:n1≤1048576) (hm2:n2≤1048576) (hq:Big.qok ((s,l1),(t,l2))):
    ∀g,Holds g R→(qF true ⟨s,p1,n1,c1⟩ ⟨t,p2,n2,c2⟩ (Big.qv ((s,l1),(t,l2)))).on g:=fun g r=>by
  subst hn1;subst hn2
  exact ⟨((s,l1),(t,l2)),⟨rfl,rfl,hm1,Holds.get i hi r⟩,⟨rfl,rfl,hm2,Holds.get j hj r⟩,rfl,fun _=>hq⟩
end
section
variable {P : Program} {c : Cx} {m : Fm} {O : List As} {R : List Fa}
end
section
variable {P : Program} {n : Sz} {m : Fm} {d : Option Tmp} {ty : TypeId} {ps : String} {af : Array Edge} {gd : Option (Nat × Bool)}
end
end Go.Proofs.YtjcpbhlijoigfaaGreat.Sp
namespace Go.Proofs.YtjcpbhlijoigfaaGreat.Sp
open Go
set_option linter.unusedVariables false
theorem kr {p:Prop} (h:p:=by kernel_rfl):p:=h
theorem ass {p:Prop} (h:p:=by assumption):p:=h
theorem cbb {p:Prop} (h:p:=by first|rfl|assumption|omega|(simp;done)|(simp;omega)|(simp_all;done)):p:=h
theorem cbo {p:Prop} (h:p:=by first|rfl|assumption|omega):p:=h
theorem cbs {p:Prop} (h:p:=by first|rfl|assumption|(simp_all;done)|omega):p:=h
theorem cbu {p:Prop} (h:p:=by first|(simp_all;done)|(simp_all;omega)|(simp;omega)|omega):p:=h
theorem om {p:Prop} (h:p:=by omega):p:=h
theorem dd {p:Prop} (h:p:=by decide):p:=h
theorem aq {α:Type} {l m:List α}:List.append l m=l++m:=rfl
theorem nq {α:Type} {l:List α}:[]++l=l:=rfl
theorem cq {α:Type} {a:α} {l m:List α}:a :: l++m=a :: (l++m):=rfl
theorem Slc.t2 {cells:List Value} {k:Nat} {cs:List Value} {a b:Value} (h:Slc cells 0 k cs):Slc (a :: b :: cells) 0 (k+2) (a :: b :: cs):= .take (.take h)
theorem Slc.t4 {cells:List Value} {k:Nat} {cs:List Value} {a b c d:Value} (h:Slc cells 0 k cs):Slc (a :: b :: c :: d :: cells) 0 (k+4) (a :: b :: c :: d :: cs):= .t2 (.t2 h)
theorem Slc.t8 {cells:List Value} {k:Nat} {cs:List Value} {a b c d e f g i:Value} (h:Slc cells 0 k cs):Slc (a :: b :: c :: d :: e :: f :: g :: i :: cells) 0 (k+8) (a :: b :: c :: d :: e :: f :: g :: i :: cs):= .t4 (.t4 h)
theorem Slc.s2 {cells:List Value} {k off:Nat} {cs:List Value} {a b:Value} (h:Slc cells off k cs):Slc (a :: b :: cells) (off+2) k cs:= .skip (.skip h)
theorem Slc.s4 {cells:List Value} {k off:Nat} {cs:List Value} {a b c d:Value} (h:Slc cells off k cs):Slc (a :: b :: c :: d :: cells) (off+4) k cs:= .s2 (.s2 h)
theorem Slc.s8 {cells:List Value} {k off:Nat} {cs:List Value} {a b c d e f g i:Value} (h:Slc cells off k cs):Slc (a :: b :: c :: d :: e :: f :: g :: i :: cells) (off+8) k cs:= .s4 (.s4 h)
theorem Upd.t2 {cells news cells':List Value} {a b a' b':Value} (h:Upd cells 0 news cells'):Upd (a :: b :: cells) 0 (a' :: b' :: news) (a' :: b' :: cells'):= .take (.take h)
theorem Upd.t4 {cells news cells':List Value} {a b c d a' b' c' d':Value} (h:Upd cells 0 news cells'):Upd (a :: b :: c :: d :: cells) 0 (a' :: b' :: c' :: d' :: news) (a' :: b' :: c' :: d' :: cells'):= .t2 (.t2 h)
theorem Upd.t8 {cells news cells':List Value} {a b c d e f g i a' b' c' d' e' f' g' i':Value} (h:Upd cells 0 news cells'):Upd (a :: b :: c :: d :: e :: f :: g :: i :: cells) 0 (a' :: b' :: c' :: d' :: e' :: f' :: g' :: i' :: news) (a' :: b' :: c' :: d' :: e' :: f' :: g' :: i' :: cells'):= .t4 (.t4 h)
theorem Upd.s2 {cells news cells':List Value} {off:Nat} {a b:Value} (h:Upd cells off news cells'):Upd (a :: b :: cells) (off+2) news (a :: b :: cells'):= .skip (.skip h)
theorem Upd.s4 {cells news cells':List Value} {off:Nat} {a b c d:Value} (h:Upd cells off news cells'):Upd (a :: b :: c :: d :: cells) (off+4) news (a :: b :: c :: d :: cells'):= .s2 (.s2 h)
theorem Upd.s8 {cells news cells':List Value} {off:Nat} {a b c d e f g i:Value} (h:Upd cells off news cells'):Upd (a :: b :: c :: d :: e :: f :: g :: i :: cells) (off+8) news (a :: b :: c :: d :: e :: f :: g :: i :: cells'):= .s4 (.s4 h)
variable {P : Program} {ops : Array Oper} {Q : Exit → Act → World → Prop} {c : Cx} {n : Sz} {wi k : Nat} {L : Array Bool} {m : Fm} {OW O : List As} {R : List Fa} {op : Op} {t0 : Tmp} {ty : TypeId} {ps : String} {af : Array Edge} {gd : Option (Nat × Bool)}
def ckD (ops:Array Oper) (L:Array Bool) (wi i:Nat):Bool:= !(Nat.beq i wi)&&(Region.free .any ops L i&&(Region.ready .any ops L).contains i)
theorem ckD_out {i:Nat} (h:ckD ops L wi i=true):Nat.beq i wi=false∧Region.free .any ops L i=true∧(Region.ready .any ops L).contains i=true:=by
  unfold ckD at h
  rw [Bool.and_eq_true,Bool.and_eq_true,Bool.not_eq_true'] at h
  exact h
def ckW (ops:Array Oper) (L:Array Bool) (wi i:Nat):Bool:=depB ops wi i&&ckD ops L wi i
theorem ckW_out {i:Nat} (h:ckW ops L wi i=true):depB ops wi i=true∧Nat.beq i wi=false∧Region.free .any ops L i=true∧(Region.ready .any ops L).contains i=true:=by
  unfold ckW at h
  rw [Bool.and_eq_true] at h
  exact ⟨h.1,ckD_out h.2⟩
theorem e_pv (i:Nat) (hi:ops[i]? =some ⟨some t0,op,ty,ps,af,gd⟩) (hw':wnt ops m ⟨some t0,op,ty,ps,af,gd⟩=some true) {v:Value} (h:PV P n ⟨some t0,op,ty,ps,af,gd⟩ m v)
    (kont:RunD P ops Q c n wi k (L.setIfInBounds i true) ((t0,v) :: m) OW O R) (hd:Nat.ble (t0+1) n.sz=true:=by exact rfl) (ck:ckD ops L wi i=true:=by kernel_rfl):RunD P ops Q c n wi (k+1) L m OW O R:=
  d_pv i hi (ckD_out ck).1 (ckD_out ck).2.1 (ckD_out ck).2.2 hw' hd h kont
theorem e_dm (i:Nat) {x:Operand} (hi:ops[i]? =some ⟨some t0,.move x,ty,ps,af,gd⟩) (hw':wnt ops m ⟨some t0,.move x,ty,ps,af,gd⟩=some true) {v:Value} (h:evo m x=some v)
    (kont:RunD P ops Q c n wi k (L.setIfInBounds i true) ((t0,v) :: m) OW O R) (hd:Nat.ble (t0+1) n.sz=true:=by exact rfl) (ck:ckD ops L wi i=true:=by kernel_rfl):RunD P ops Q c n wi (k+1) L m OW O R:=
  d_pv i hi (ckD_out ck).1 (ckD_out ck).2.1 (ckD_out ck).2.2 hw' hd (zX h) kont
theorem e_skip (i:Nat) (hi:ops[i]? =some ⟨some t0,op,ty,ps,af,gd⟩) (hw':wnt ops m ⟨some t0,op,ty,ps,af,gd⟩=some false)
    (kont:RunD P ops Q c n wi k (L.setIfInBounds i true) ((t0,undef) :: m) OW O R) (hd:Nat.ble (t0+1) n.sz=true:=by exact rfl) (ck:ckD ops L wi i=true:=by kernel_rfl):RunD P ops Q c n wi (k+1) L m OW O R:=
  d_skip i hi (ckD_out ck).1 (ckD_out ck).2.1 (ckD_out ck).2.2 hw' hd kont
theorem e_u (i:Nat) (hi:ops[i]? =some ⟨some t0,op,ty,ps,af,gd⟩) (hw':wnt ops m ⟨some t0,op,ty,ps,af,gd⟩=some true) {v:Value} (h:Vl P n ⟨some t0,op,ty,ps,af,gd⟩ m O R (Y:=Unit) (fun _=>True) (fun _=>v) (fun _=>[]))
    (kont:RunD P ops Q c n wi k (L.setIfInBounds i true) ((t0,v) :: m) OW O R) (hd:Nat.ble (t0+1) n.sz=true:=by exact rfl) (ck:ckD ops L wi i=true:=by kernel_rfl):RunD P ops Q c n wi (k+1) L m OW O R:=
  d_u i hi (ckD_out ck).1 (ckD_out ck).2.1 (ckD_out ck).2.2 hw' hd h kont
theorem e_uw (i:Nat) (hi:ops[i]? =some ⟨some t0,op,ty,ps,af,gd⟩) (hw':wnt ops m ⟨some t0,op,ty,ps,af,gd⟩=some true) {v:Value} (h:Vl P n ⟨some t0,op,ty,ps,af,gd⟩ m (OW++O) R (Y:=Unit) (fun _=>True) (fun _=>v) (fun _=>[]))
    (kont:RunD P ops Q c n wi k (L.setIfInBounds i true) ((t0,v) :: m) OW O R) (hd:Nat.ble (t0+1) n.sz=true:=by exact rfl) (ck:ckW ops L wi i=true:=by kernel_rfl):RunD P ops Q c n wi (k+1) L m OW O R:=
  d_uw i hi (ckW_out ck).2.1 (ckW_out ck).1 (ckW_out ck).2.2.1 (ckW_out ck).2.2.2 hw' hd h kont
theorem e_one (i:Nat) (h:RunO P ops Q c n wi k L i m OW O R) (hr:Region.ready .any ops L=[i]:=by kernel_rfl):RunD P ops Q c n wi (k+1) L m OW O R:=zUa i hr h
section
variable {ro : Option Nat} {l : List Oper} {t : Tmp}
theorem e_p {v:Value} (h:PV P n ⟨some t,op,ty,ps,af,gd⟩ m v) (kont:RunL (ro:=ro) P ops Q c n l ((t,v) :: m) O R) (hw:wnt ops m ⟨some t,op,ty,ps,af,gd⟩=some true:=by exact rfl) (hd:Nat.ble (t+1) n.sz=true:=by exact rfl):RunL (ro:=ro) P ops Q c n (⟨some t,op,ty,ps,af,gd⟩ :: l) m O R:=r_pv hw hd h kont
theorem e_mv {x:Operand} {v:Value} (h:evo m x=some v) (kont:RunL (ro:=ro) P ops Q c n l ((t,v) :: m) O R) (hw:wnt ops m ⟨some t,.move x,ty,ps,af,gd⟩=some true:=by exact rfl) (hd:Nat.ble (t+1) n.sz=true:=by exact rfl):RunL (ro:=ro) P ops Q c n (⟨some t,.move x,ty,ps,af,gd⟩ :: l) m O R:=r_pv hw hd (zX h) kont
theorem e_no (kont:RunL (ro:=ro) P ops Q c n l ((t,undef) :: m) O R) (hw:wnt ops m ⟨some t,op,ty,ps,af,gd⟩=some false:=by exact rfl) (hd:Nat.ble (t+1) n.sz=true:=by exact rfl):RunL (ro:=ro) P ops Q c n (⟨some t,op,ty,ps,af,gd⟩ :: l) m O R:=zKe hw hd kont
theorem e_ru {v:Value} (h:Vl P n ⟨some t,op,ty,ps,af,gd⟩ m O R (Y:=Unit) (fun _=>True) (fun _=>v) (fun _=>[])) (kont:RunL (ro:=ro) P ops Q c n l ((t,v) :: m) O R) (hw:wnt ops m ⟨some t,op,ty,ps,af,gd⟩=some true:=by exact rfl) (hd:Nat.ble (t+1) n.sz=true:=by exact rfl):RunL (ro:=ro) P ops Q c n (⟨some t,op,ty,ps,af,gd⟩ :: l) m O R:=r_u hw hd h kont
end
end Go.Proofs.YtjcpbhlijoigfaaGreat.Sp
namespace Go.Proofs.YtjcpbhlijoigfaaGreat.Ms
set_option linter.unusedVariables false
abbrev V3:=Int×Int×Int
section
variable {α : Type}
theorem drop_cons {l:List α} {i:Nat} (d:α) (h:i<l.length):l.drop i=l.getD i d :: l.drop (i+1):=by
  rw [List.drop_eq_getElem_cons h];simp [List.getD,List.getElem?_eq_getElem h]
theorem take_snoc {l:List α} {i:Nat} (d:α) (h:i<l.length):l.take (i+1)=l.take i++[l.getD i d]:=by
  rw [List.take_add_one];simp [List.getD,List.getElem?_eq_getElem h]
theorem ext_getD {l m:List α} (d:α) (hl:l.length=m.length) (h:∀j,j<l.length→l.getD j d=m.getD j d):l=m:=by
  refine List.ext_getElem hl fun i h1 h2=> ?_
  have:=h i h1
  simpa [List.getD,List.getElem?_eq_getElem h1,List.getElem?_eq_getElem h2] using this
theorem getD_mem {l:List α} {i:Nat} (d:α) (h:i<l.length):l.getD i d∈l:=by
  simp [List.getD,List.getElem?_eq_getElem h]
theorem mem_getD {l:List α} {x:α} (d:α) (h:x∈l):∃j,j<l.length∧l.getD j d=x:=by
  obtain ⟨j,hj,e⟩:=List.getElem_of_mem h
  exact ⟨j,hj,by simp [List.getD,List.getElem?_eq_getElem hj,e]⟩
theorem any_false {l:List α} {f:α→Bool} (d:α) (h:∀j,j<l.length→f (l.getD j d)=false):l.any f=false:=by
  rw [List.any_eq_false]
  intro x hx
  obtain ⟨j,hj,e⟩:=mem_getD d hx
  have:=h j hj
  rw [e] at this;simp [this]
theorem any_true {l:List α} {f:α→Bool} (d:α) {i:Nat} (hi:i<l.length) (h:f (l.getD i d)=true):l.any f=true:=
  List.any_eq_true.2 ⟨_,getD_mem d hi,h⟩
theorem all_lt_succ {P:Nat→Prop} {i:Nat} (h:∀j,j<i→P j) (hi:P i):∀j,j<i+1→P j:=fun j hj=>by
  by_cases e:j=i
  · subst e;exact hi
  · exact h j (by omega)
end
def farI (n:Int):Bool:=decide (n< -1048576∨1048576<n)
def far (p:V3):Bool:=[p.1,p.2.1,p.2.2].any farI
def badIx (n:Nat) (f:V3):Bool:=decide (f.1<0∨(n:Int)≤f.1∨f.2.1<0∨(n:Int)≤f.2.1∨f.2.2<0∨(n:Int)≤f.2.2)
def deg (f:V3):Bool:=decide (f.1=f.2.1∨f.2.1=f.2.2∨f.2.2=f.1)
structure Good (V F:List V3):Prop where
  nv:V.length≤512
  nf:F.length≤1024
  far:∀p∈V,far p=false
  ix:∀f∈F,badIx V.length f=false
  dg:∀f∈F,deg f=false
theorem Good.at {V F:List V3} (h:Good V F) {i:Nat} (hi:i<F.length):(0≤(F.getD i (0,0,0)).1∧(F.getD i (0,0,0)).1<V.length)∧(0≤(F.getD i (0,0,0)).2.1∧(F.getD i (0,0,0)).2.1<V.length)∧(0≤(F.getD i (0,0,0)).2.2∧(F.getD i (0,0,0)).2.2<V.length)∧
    (F.getD i (0,0,0)).1≠(F.getD i (0,0,0)).2.1∧(F.getD i (0,0,0)).2.1≠(F.getD i (0,0,0)).2.2∧(F.getD i (0,0,0)).2.2≠(F.getD i (0,0,0)).1:=by
  have h1:=h.ix _ (getD_mem (0,0,0) hi)
  have h2:=h.dg _ (getD_mem (0,0,0) hi)
  simp only [badIx,deg,decide_eq_false_iff_not] at h1 h2
  omega
theorem mul_le {a b A B:Int} (ha: -A≤a∧a≤A) (hb: -B≤b∧b≤B): -(A*B)≤a*b∧a*b≤A*B:=by
  have h1:(a*b).natAbs≤A.natAbs*B.natAbs:=by rw [Int.natAbs_mul];exact Nat.mul_le_mul (by omega) (by omega)
  have hA:A=(A.natAbs:Int):=by omega
  have hB:B=(B.natAbs:Int):=by omega
  have h2:A*B=((A.natAbs*B.natAbs:Nat):Int):=by rw [Int.natCast_mul,←hA,←hB]
  omega
def sub (a b:V3):V3:=(a.1 - b.1,a.2.1 - b.2.1,a.2.2 - b.2.2)
end Go.Proofs.YtjcpbhlijoigfaaGreat.Ms
namespace Go.Proofs.YtjcpbhlijoigfaaGreat.Big
end Go.Proofs.YtjcpbhlijoigfaaGreat.Big
namespace Go.Proofs.YtjcpbhlijoigfaaGreat.Pg
set_option linter.unusedVariables false
abbrev P2:=Int×Int
def crs (a b c:P2):Int:=(b.1 - a.1)*(c.2 - a.2) - (b.2 - a.2)*(c.1 - a.1)
def inR (p:P2):Prop:=(-1048576≤p.1∧p.1≤1048576)∧(-1048576≤p.2∧p.2≤1048576)
instance (p:P2):Decidable (inR p):=inferInstanceAs (Decidable (_∧_))
def far (p:P2):Bool:=decide (¬inR p)
theorem far_no {p:P2} (h:¬far p=true):inR p:=by unfold far at h;simpa using h
theorem far_no' {p:P2} (h:far p=false):inR p:=far_no (by rw [h];decide)
theorem mul_b {x y m n:Int} (hx: -m≤x∧x≤m) (hy: -n≤y∧y≤n): -(m*n)≤x*y∧x*y≤m*n:=by
  have h1:x.natAbs≤m.natAbs:=by omega
  have h2:y.natAbs≤n.natAbs:=by omega
  have h3:(x*y).natAbs≤m.natAbs*n.natAbs:=by rw [Int.natAbs_mul];exact Nat.mul_le_mul h1 h2
  have h4:((m.natAbs*n.natAbs:Nat):Int)=m*n:=by
    rw [Int.natCast_mul,Int.natAbs_of_nonneg (by omega),Int.natAbs_of_nonneg (by omega)]
  omega
structure Cb (a b c:P2):Prop where
  p1: -17592186044416≤(b.1 - a.1)*(c.2 - a.2)∧(b.1 - a.1)*(c.2 - a.2)≤17592186044416
  p2: -17592186044416≤(b.2 - a.2)*(c.1 - a.1)∧(b.2 - a.2)*(c.1 - a.1)≤17592186044416
  c: -35184372088832≤crs a b c∧crs a b c≤35184372088832
theorem cb {a b c:P2} (ha:inR a) (hb:inR b) (hc:inR c):Cb a b c:=by
  obtain ⟨⟨a1,a2⟩,a3,a4⟩:=ha
  obtain ⟨⟨b1,b2⟩,b3,b4⟩:=hb
  obtain ⟨⟨c1,c2⟩,c3,c4⟩:=hc
  have h1:=mul_b (x:=b.1 - a.1) (y:=c.2 - a.2) (m:=2097152) (n:=2097152) (by omega) (by omega)
  have h2:=mul_b (x:=b.2 - a.2) (y:=c.1 - a.1) (m:=2097152) (n:=2097152) (by omega) (by omega)
  exact ⟨by omega,by omega,by unfold crs;omega⟩
structure Ab (a b:P2):Prop where
  p1: -1099511627776≤a.1*b.2∧a.1*b.2≤1099511627776
  p2: -1099511627776≤b.1*a.2∧b.1*a.2≤1099511627776
theorem ab {a b:P2} (ha:inR a) (hb:inR b):Ab a b:=by
  obtain ⟨⟨a1,a2⟩,a3,a4⟩:=ha
  obtain ⟨⟨b1,b2⟩,b3,b4⟩:=hb
  have h1:=mul_b (x:=a.1) (y:=b.2) (m:=1048576) (n:=1048576) (by omega) (by omega)
  have h2:=mul_b (x:=b.1) (y:=a.2) (m:=1048576) (n:=1048576) (by omega) (by omega)
  exact ⟨by omega,by omega⟩
theorem sgn_rng (z:Int): -1≤z.sign∧z.sign≤1:=by
  rcases Int.lt_trichotomy z 0 with h|h|h
  · rw [Int.sign_eq_neg_one_of_neg h];omega
  · rw [h];simp
  · rw [Int.sign_eq_one_of_pos h];omega
theorem sgn_mul (z w:Int): -1≤z.sign*w.sign∧z.sign*w.sign≤1:=by
  have h1:=sgn_rng z
  have h2:=sgn_rng w
  have h:=mul_b (x:=z.sign) (y:=w.sign) (m:=1) (n:=1) (by omega) (by omega)
  omega
def betw (a b p:P2):Prop:=min a.1 b.1≤p.1∧p.1≤max a.1 b.1∧min a.2 b.2≤p.2∧p.2≤max a.2 b.2
instance (a b p:P2):Decidable (betw a b p):=inferInstanceAs (Decidable (_∧_))
def wi (a b x:Int):Prop:=a≤x∧x≤b∨b≤x∧x≤a
instance (a b x:Int):Decidable (wi a b x):=inferInstanceAs (Decidable (_∨_))
theorem betw_wi {a b p:P2}:betw a b p↔wi a.1 b.1 p.1∧wi a.2 b.2 p.2:=by unfold betw wi;omega
def onS (a b p:P2):Prop:=crs a b p=0∧betw a b p
instance (a b p:P2):Decidable (onS a b p):=inferInstanceAs (Decidable (_∧_))
def mt0 (a b c d:P2):Prop:=(crs a b c).sign*(crs a b d).sign<0∧(crs c d a).sign*(crs c d b).sign<0
instance (a b c d:P2):Decidable (mt0 a b c d):=inferInstanceAs (Decidable (_∧_))
def mt1 (a b c d:P2):Prop:=onS a b c∨onS a b d∨onS c d a∨onS c d b
instance (a b c d:P2):Decidable (mt1 a b c d):=inferInstanceAs (Decidable (_∨_))
def mt (a b c d:P2):Prop:=mt0 a b c d∨mt1 a b c d
instance (a b c d:P2):Decidable (mt a b c d):=inferInstanceAs (Decidable (_∨_))
def ck1:List P2→List P2→Int
  |_,[]=>0
  |s,a :: l=>if far a then 2 else if a∈s then 7 else ck1 (s++[a]) l
theorem ck1_step {l:List P2} {i:Nat} (h:i<l.length):ck1 (l.take i) (l.drop i)=if far (l.getD i (0,0)) then 2 else if l.getD i (0,0)∈l.take i then 7 else ck1 (l.take (i+1)) (l.drop (i+1)):=by
  rw [Ms.drop_cons (0,0) h,Ms.take_snoc (0,0) h];rfl
theorem ck1_far {l:List P2} {i:Nat} (h:i<l.length) (hf:far (l.getD i (0,0))=true):ck1 (l.take i) (l.drop i)=2:=by rw [ck1_step h,if_pos hf]
theorem ck1_dup {l:List P2} {i:Nat} (h:i<l.length) (hf:far (l.getD i (0,0))=false) (hd:l.getD i (0,0)∈l.take i):ck1 (l.take i) (l.drop i)=7:=by rw [ck1_step h,if_neg (by rw [hf];decide),if_pos hd]
theorem ck1_go {l:List P2} {i:Nat} (h:i<l.length) (hf:far (l.getD i (0,0))=false) (hd:¬l.getD i (0,0)∈l.take i):ck1 (l.take (i+1)) (l.drop (i+1))=ck1 (l.take i) (l.drop i):=by rw [ck1_step h,if_neg (by rw [hf];decide),if_neg hd]
theorem ck1_end {l:List P2} {i:Nat} (h:l.length≤i):ck1 (l.take i) (l.drop i)=0:=by rw [List.drop_eq_nil_of_le h];rfl
theorem not_take {l:List P2} {i:Nat} (hi:i<l.length) (h:∀j,j<i→¬l.getD i (0,0)=l.getD j (0,0)):¬l.getD i (0,0)∈l.take i:=fun hm=>by
  obtain ⟨j,h1,h2⟩:=Ms.mem_getD (0,0) hm
  rw [List.length_take] at h1
  refine h j (by omega) ?_
  rw [← h2]
  simp only [List.getD_eq_getElem?_getD,List.getElem?_take,if_pos (show j<i by omega)]
theorem in_take {l:List P2} {i j:Nat} (hi:i<l.length) (hj:j<i) (h:l.getD i (0,0)=l.getD j (0,0)):l.getD i (0,0)∈l.take i:=by
  have h1:=Ms.getD_mem (l:=l.take i) (i:=j) (0,0) (by rw [List.length_take];omega)
  have h2:(l.take i).getD j (0,0)=l.getD j (0,0):=by simp only [List.getD_eq_getElem?_getD,List.getElem?_take,if_pos hj]
  rwa [h2,←h] at h1
theorem ck1_zero {l:List P2}:∀{s:List P2},ck1 s l=0→∀x∈l,inR x:=by
  induction l with
  |nil=>intro s _ x hx;cases hx
  |cons a l ih=>
    intro s h x hx
    unfold ck1 at h
    by_cases hf:far a=true
    · rw [if_pos hf] at h;omega
    rw [if_neg hf] at h
    by_cases hd:a∈s
    · rw [if_pos hd] at h;omega
    rw [if_neg hd] at h
    rcases List.mem_cons.1 hx with rfl|hx
    · exact far_no hf
    · exact ih h x hx
abbrev gt (l:List P2) (i:Nat):P2:=l.getD i (0,0)
def smA (n:Nat) (l:List P2) (i:Nat):Prop:=onS (gt l i) (gt l ((i+1)%n)) (gt l ((i+2)%n))∨onS (gt l ((i+1)%n)) (gt l ((i+2)%n)) (gt l i)
instance (n:Nat) (l:List P2) (i:Nat):Decidable (smA n l i):=inferInstanceAs (Decidable (_∨_))
def smB (n:Nat) (l:List P2) (i j:Nat):Prop:=i+2≤j∧(j+1)%n≠i∧mt (gt l i) (gt l ((i+1)%n)) (gt l j) (gt l ((j+1)%n))
instance (n:Nat) (l:List P2) (i j:Nat):Decidable (smB n l i j):=inferInstanceAs (Decidable (_∧_))
def smI (n:Nat) (l:List P2) (i:Nat):Prop:=¬smA n l i∧∀j,j<n→¬smB n l i j
instance (n:Nat) (l:List P2) (i:Nat):Decidable (smI n l i):=inferInstanceAs (Decidable (_∧_))
def smp (l:List P2):Prop:=∀i,i<l.length→smI l.length l i
instance (l:List P2):Decidable (smp l):=inferInstanceAs (Decidable (∀i,i<l.length→_))
def bad (n:Nat) (l:List P2) (i j:Nat):Prop:=
  if j=i+1 then onS (gt l i) (gt l ((i+1)%n)) (gt l ((j+1)%n))∨onS (gt l j) (gt l ((j+1)%n)) (gt l i)
  else if (j+1)%n=i then onS (gt l i) (gt l ((i+1)%n)) (gt l j)∨onS (gt l j) (gt l ((j+1)%n)) (gt l ((i+1)%n))
  else mt (gt l i) (gt l ((i+1)%n)) (gt l j) (gt l ((j+1)%n))
instance (n:Nat) (l:List P2) (i j:Nat):Decidable (bad n l i j):=inferInstanceAs (Decidable (ite ..))
theorem bad_1 {n:Nat} {l:List P2} {i j:Nat} (e:j=i+1):bad n l i j↔onS (gt l i) (gt l ((i+1)%n)) (gt l ((j+1)%n))∨onS (gt l j) (gt l ((j+1)%n)) (gt l i):=by unfold bad;rw [if_pos e]
theorem bad_2 {n:Nat} {l:List P2} {i j:Nat} (e:¬j=i+1) (e2:(j+1)%n=i):bad n l i j↔onS (gt l i) (gt l ((i+1)%n)) (gt l j)∨onS (gt l j) (gt l ((j+1)%n)) (gt l ((i+1)%n)):=by unfold bad;rw [if_neg e,if_pos e2]
theorem bad_3 {n:Nat} {l:List P2} {i j:Nat} (e:¬j=i+1) (e2:¬(j+1)%n=i):bad n l i j↔mt (gt l i) (gt l ((i+1)%n)) (gt l j) (gt l ((j+1)%n)):=by unfold bad;rw [if_neg e,if_neg e2]
def smpR (l:List P2):Prop:=∀i,i<l.length→∀j,j<l.length→i<j→¬bad l.length l i j
instance (l:List P2):Decidable (smpR l):=inferInstanceAs (Decidable (∀i,i<l.length→∀j,j<l.length→_))
theorem smp_iff {l:List P2} (h3:3≤l.length):smp l↔smpR l:=by
  constructor
  · intro h i hi j hj hij hb
    by_cases e:j=i+1
    · rw [bad_1 e] at hb
      refine (h i hi).1 ?_
      unfold smA
      have k1:(i+1)%l.length=j:=by rw [← e,Nat.mod_eq_of_lt hj]
      have k2:(i+2)%l.length=(j+1)%l.length:=by rw [e]
      rw [k2,k1]
      rw [k1] at hb
      exact hb
    by_cases e2:(j+1)%l.length=i
    · rw [bad_2 e e2] at hb
      have hj2:j=l.length - 1:=by
        by_cases e3:j+1<l.length
        · rw [Nat.mod_eq_of_lt e3] at e2;omega
        · omega
      have h9:=(h j hj).1
      have k2:(j+2)%l.length=(i+1)%l.length:=by
        have hi0:i=0:=by rw [← e2,hj2,Nat.sub_add_cancel (by omega),Nat.mod_self]
        rw [show j+2=l.length+(i+1) by omega,Nat.add_mod_left]
      unfold smA at h9
      rw [e2,k2] at h9
      rw [e2] at hb
      exact h9 hb.symm
    · rw [bad_3 e e2] at hb
      exact (h i hi).2 j hj ⟨by omega,e2,hb⟩
  · intro h i hi
    refine ⟨fun hb=> ?_,fun j hj hb=> ?_⟩
    · unfold smA at hb
      by_cases e:i+1<l.length
      · refine h i hi (i + 1) e (by omega) ((bad_1 rfl).2 ?_)
        rw [Nat.mod_eq_of_lt e] at hb ⊢
        exact hb
      · have hi2 : i = l.length - 1 := by omega
        have k0:(i+1)%l.length=0:=by rw [hi2,Nat.sub_add_cancel (by omega),Nat.mod_self]
        have k2:(i+2)%l.length=(0+1)%l.length:=by rw [show i+2=l.length+(0+1) by omega,Nat.add_mod_left]
        refine h 0 (by omega) i hi (by omega) ((bad_2 (by omega) k0).2 ?_)
        rw [k0,k2] at hb
        rw [k0]
        exact hb.symm
    · exact h i hi j hj (by have:=hb.1;omega) ((bad_3 (by have:=hb.1;omega) hb.2.1).2 hb.2.2)
theorem smp_n {l:List P2} {n:Nat} (hn:l.length=n):smp l↔∀i,i<n→smI n l i:=by subst hn;exact Iff.rfl
theorem smpR_n {l:List P2} {n:Nat} (hn:l.length=n):smpR l↔∀i,i<n→∀j,j<n→i<j→¬bad n l i j:=by subst hn;exact Iff.rfl
def ck (l:List P2):Int:=if l.length<3∨64<l.length then 3 else if ck1 [] l≠0 then ck1 [] l else if smp l then 0 else 11
theorem ck_lim {l:List P2} (h:l.length<3∨64<l.length):ck l=3:=by unfold ck;rw [if_pos h]
theorem ck_one {l:List P2} (h:¬(l.length<3∨64<l.length)) (h2:ck1 [] l≠0):ck l=ck1 [] l:=by unfold ck;rw [if_neg h,if_pos h2]
theorem ck_two {l:List P2} (h:¬(l.length<3∨64<l.length)) (h2:ck1 [] l=0) (h3:¬smp l):ck l=11:=by unfold ck;rw [if_neg h,if_neg (by omega),if_neg h3]
theorem ck_ok {l:List P2} (h:¬(l.length<3∨64<l.length)) (h2:ck1 [] l=0) (h3:smp l):ck l=0:=by unfold ck;rw [if_neg h,if_neg (by omega),if_pos h3]
structure Ok (l:List P2):Prop where
  n3:3≤l.length
  n64:l.length≤64
  rng:∀x∈l,inR x
  smp:smp l
theorem ok {l:List P2} (h:ck l=0):Ok l:=by
  unfold ck at h
  by_cases h1:l.length<3∨64<l.length
  · rw [if_pos h1] at h;omega
  rw [if_neg h1] at h
  by_cases h2:ck1 [] l≠0
  · rw [if_pos h2] at h;exact absurd h h2
  rw [if_neg h2] at h
  by_cases h3:Pg.smp l
  · exact ⟨by omega,by omega,ck1_zero (Decidable.not_not.1 h2),h3⟩
  · rw [if_neg h3] at h;omega
theorem Ok.gt {l:List P2} (h:∀x∈l,inR x) {i:Nat} (hi:i<l.length):inR (l.getD i (0,0)):=h _ (Ms.getD_mem (0,0) hi)
def tm (n:Nat) (l:List P2) (i:Nat):Int:=(gt l i).1*(gt l ((i+1)%n)).2 - (gt l ((i+1)%n)).1*(gt l i).2
def dbN (n:Nat) (l:List P2):Nat→Int
  |0=>0
  |i+1=>dbN n l i+tm n l i
def db (l:List P2):Int:=dbN l.length l l.length
theorem tm_b {l:List P2} {n:Nat} (hn:l.length=n) (h:∀x∈l,inR x) {i:Nat} (hi:i<n): -2199023255552≤tm n l i∧tm n l i≤2199023255552:=by
  subst hn
  have h1:=Ok.gt h hi
  have h2:=Ok.gt h (Nat.mod_lt (i+1) (by omega:0<l.length))
  obtain ⟨p1,p2⟩:=ab h1 h2
  unfold tm gt;omega
theorem dbN_b {l:List P2} {n:Nat} (hn:l.length=n) (h:∀x∈l,inR x):∀{i:Nat},i≤n→ -(2199023255552*(i:Int))≤dbN n l i∧dbN n l i≤2199023255552*(i:Int)
  |0,_=>by unfold dbN;omega
  |i+1,hi=>by
    have h1:=dbN_b hn h (i:=i) (by omega)
    have h2:=tm_b hn h (i:=i) (by omega)
    unfold dbN;omega
def arC (l:List P2):Int:=if 64<l.length then 3 else if l.any far then 2 else 0
def arV (l:List P2):Int:=if 64<l.length then 0 else if l.any far then 0 else db l
theorem any_far {l:List P2} (h:¬l.any far=true):∀x∈l,inR x:=fun x hx=>by
  refine far_no fun hf=>h (List.any_eq_true.2 ⟨x,hx,hf⟩)
theorem ar_lim {l:List P2} (h:64<l.length):arV l=0∧arC l=3:=by unfold arV arC;rw [if_pos h,if_pos h];exact ⟨rfl,rfl⟩
theorem ar_far {l:List P2} (h:¬64<l.length) (h2:l.any far=true):arV l=0∧arC l=2:=by unfold arV arC;rw [if_neg h,if_neg h,if_pos h2,if_pos h2];exact ⟨rfl,rfl⟩
theorem ar_ok {l:List P2} (h:¬64<l.length) (h2:¬l.any far=true):arV l=db l∧arC l=0:=by unfold arV arC;rw [if_neg h,if_neg h,if_neg h2,if_neg h2];exact ⟨rfl,rfl⟩
def hit0 (a b q:P2):Prop:=a.2≤q.2∧q.2<b.2∧0<(crs a b q).sign
instance (a b q:P2):Decidable (hit0 a b q):=inferInstanceAs (Decidable (_∧_))
def hit (a b q:P2):Prop:=if b.2<a.2 then hit0 b a q else hit0 a b q
instance (a b q:P2):Decidable (hit a b q):=inferInstanceAs (Decidable (ite ..))
def hitR (a b q:P2):Prop:=(¬(q.2<a.2↔q.2<b.2))∧(a.2<b.2∧0<crs a b q∨b.2<a.2∧crs a b q<0)
instance (a b q:P2):Decidable (hitR a b q):=inferInstanceAs (Decidable (_∧_))
theorem hit_sw {a b q:P2} (h:b.2<a.2):hit a b q↔hit0 b a q:=by unfold hit;rw [if_pos h]
theorem hit_no {a b q:P2} (h:¬b.2<a.2):hit a b q↔hit0 a b q:=by unfold hit;rw [if_neg h]
theorem crs_sw (a b q:P2):crs b a q= - crs a b q:=by unfold crs;grind
def inN (n:Nat) (l:List P2) (q:P2):Nat→Int
  |0=> -1
  |i+1=>if hit (gt l i) (gt l ((i+1)%n)) q then - inN n l q i else inN n l q i
theorem inN_hit {n:Nat} {l:List P2} {q:P2} {i:Nat} (h:hit (gt l i) (gt l ((i+1)%n)) q):inN n l q (i+1)= - inN n l q i:=by
  show ite .. =_;rw [if_pos h]
theorem inN_not {n:Nat} {l:List P2} {q:P2} {i:Nat} (h:¬hit (gt l i) (gt l ((i+1)%n)) q):inN n l q (i+1)=inN n l q i:=by
  show ite .. =_;rw [if_neg h]
theorem inN_rng (n:Nat) (l:List P2) (q:P2):∀i,inN n l q i=1∨inN n l q i= -1
  |0=> .inr rfl
  |i+1=>by
    have:=inN_rng n l q i
    unfold inN;split <;> omega
def onB (l:List P2) (q:P2):Prop:=∃i,i<l.length∧onS (l.getD i (0,0)) (l.getD ((i+1)%l.length) (0,0)) q
instance (l:List P2) (q:P2):Decidable (onB l q):=inferInstanceAs (Decidable (∃i,i<l.length∧_))
def ins (l:List P2) (q:P2):Int:=if onB l q then 0 else inN l.length l q l.length
theorem ins_on {l:List P2} {n:Nat} (hn:l.length=n) {q:P2} {i:Nat} (hi:i<n) (h:onS (l.getD i (0,0)) (l.getD ((i+1)%n) (0,0)) q):ins l q=0:=by subst hn;unfold ins;rw [if_pos ⟨i,hi,h⟩]
theorem ins_go {l:List P2} {n:Nat} (hn:l.length=n) {q:P2} (h:∀i,i<n→¬onS (l.getD i (0,0)) (l.getD ((i+1)%n) (0,0)) q):ins l q=inN n l q n:=by
  subst hn;unfold ins;rw [if_neg (fun ⟨i,h1,h2⟩=>h i h1 h2)]
def isC (l:List P2) (q:P2):Int:=if ck l≠0 then ck l else if far q then 2 else 0
def isV (l:List P2) (q:P2):Int:=if ck l≠0 then 0 else if far q then 0 else ins l q
theorem is_bad {l:List P2} {q:P2} (h:ck l≠0):isV l q=0∧isC l q=ck l:=by unfold isV isC;rw [if_pos h,if_pos h];exact ⟨rfl,rfl⟩
theorem is_far {l:List P2} {q:P2} (h:ck l=0) (h2:far q=true):isV l q=0∧isC l q=2:=by unfold isV isC;rw [if_neg (fun k=>k h),if_pos h2,if_neg (fun k=>k h),if_pos h2];exact ⟨rfl,rfl⟩
theorem is_ok {l:List P2} {q:P2} (h:ck l=0) (h2:¬far q=true):isV l q=ins l q∧isC l q=0:=by unfold isV isC;rw [if_neg (fun k=>k h),if_neg h2,if_neg (fun k=>k h),if_neg h2];exact ⟨rfl,rfl⟩
end Go.Proofs.YtjcpbhlijoigfaaGreat.Pg
namespace Go.Proofs.YtjcpbhlijoigfaaGreat.Pg
set_option linter.unusedVariables false
abbrev T3:=Int×Int×Int
def sg (l:List P2):Int:=if db l<0 then -1 else 1
theorem sg_neg {l:List P2} (h:db l<0):sg l= -1:=by unfold sg;rw [if_pos h]
theorem sg_pos {l:List P2} (h:¬db l<0):sg l=1:=by unfold sg;rw [if_neg h]
theorem sg_rng (l:List P2):sg l=1∨sg l= -1:=by unfold sg;split;exact .inr rfl;exact .inl rfl
def sx (m i:Nat):Nat:=if i+1<m then i+1 else 0
def px (m i:Nat):Nat:=if i=0 then m - 1 else i - 1
abbrev nt (L:List Nat) (i:Nat):Nat:=L.getD i 0
structure Rg (n:Nat) (L B N:List Nat):Prop where
  lb:B.length=64
  ln:N.length=64
  n64:n≤64
  lt:∀i,i<L.length→nt L i<n
  srt:∀i j,i<j→j<L.length→nt L i<nt L j
  nx:∀i,i<L.length→N.getD (nt L i) 0=nt L (sx L.length i)
  bf:∀i,i<L.length→B.getD (nt L i) 0=nt L (px L.length i)
theorem sx_c (m i:Nat):i+1<m∧sx m i=i+1∨m≤i+1∧sx m i=0:=by unfold sx;split <;> omega
theorem px_c (m i:Nat):i=0∧px m i=m - 1∨0<i∧px m i=i - 1:=by unfold px;split <;> omega
def er (i x:Nat):Nat:=if x<i then x else x+1
theorem er_c (i x:Nat):x<i∧er i x=x∨i≤x∧er i x=x+1:=by unfold er;split <;> omega
theorem er_sx {m i j:Nat} (hi:i<m) (h2:2≤m) (hj:j<m - 1):(er i j=px m i→sx m i=er i (sx (m - 1) j))∧(er i j≠px m i→sx m (er i j)=er i (sx (m - 1) j)):=by
  have h1:=sx_c m i
  have h3:=px_c m i
  have h4:=er_c i j
  have h5:=sx_c (m - 1) j
  have h6:=er_c i (sx (m - 1) j)
  have h7:=sx_c m (er i j)
  constructor <;> intro h <;> omega
theorem er_px {m i j:Nat} (hi:i<m) (h2:2≤m) (hj:j<m - 1):(er i j=sx m i→px m i=er i (px (m - 1) j))∧(er i j≠sx m i→px m (er i j)=er i (px (m - 1) j)):=by
  have h1:=px_c m i
  have h3:=sx_c m i
  have h4:=er_c i j
  have h5:=px_c (m - 1) j
  have h6:=er_c i (px (m - 1) j)
  have h7:=px_c m (er i j)
  constructor <;> intro h <;> omega
theorem sx_lt {m i:Nat} (h:i<m):sx m i<m:=by unfold sx;split <;> omega
theorem px_lt {m i:Nat} (h:i<m):px m i<m:=by unfold px;split <;> omega
theorem Rg.inj {n:Nat} {L B N:List Nat} (h:Rg n L B N) {i j:Nat} (hi:i<L.length) (hj:j<L.length) (e:nt L i=nt L j):i=j:=by
  rcases Nat.lt_trichotomy i j with k|k|k
  · have:=h.srt i j k hj;omega
  · exact k
  · have:=h.srt j i k hi;omega
theorem Rg.at {n:Nat} {L B N:List Nat} (h:Rg n L B N) {i v:Nat} (hi:i<L.length) (e:nt L i=v):v<n∧N.getD v 0=nt L (sx L.length i)∧B.getD v 0=nt L (px L.length i)∧N.getD v 0<n∧B.getD v 0<n:=by
  subst e
  have h1:=h.nx i hi
  have h2:=h.bf i hi
  have h3:=h.lt _ (sx_lt hi)
  have h4:=h.lt _ (px_lt hi)
  exact ⟨h.lt i hi,h1,h2,by omega,by omega⟩
theorem getD_set {l:List Nat} {i j x:Nat} (h:j<l.length):(l.set j x).getD i 0=if i=j then x else l.getD i 0:=by
  rw [List.getD_eq_getElem?_getD,List.getElem?_set,List.getD_eq_getElem?_getD]
  by_cases e:j=i
  · subst e;rw [if_pos rfl,if_pos rfl,if_pos h];rfl
  · rw [if_neg e,if_neg (fun k=>e k.symm)]
theorem getD_erase {L:List Nat} {i j:Nat}:nt (L.eraseIdx i) j=nt L (er i j):=by
  unfold nt er
  rw [List.getD_eq_getElem?_getD,List.getElem?_eraseIdx]
  split
  · rw [List.getD_eq_getElem?_getD]
  · rw [List.getD_eq_getElem?_getD]
def cutN (B N:List Nat) (v:Nat):List Nat:=N.set (B.getD v 0) (N.getD v 0)
def cutB (B N:List Nat) (v:Nat):List Nat:=B.set ((cutN B N v).getD v 0) (B.getD v 0)
theorem cutN_v {n:Nat} {L B N:List Nat} (h:Rg n L B N) {i v:Nat} (hi:i<L.length) (e:nt L i=v) (h2:2≤L.length):(cutN B N v).getD v 0=N.getD v 0:=by
  obtain ⟨hv,hn,hb,hn2,hb2⟩:=h.at hi e
  have n64:=h.n64
  have ln:=h.ln
  unfold cutN
  rw [getD_set (by omega),if_neg]
  intro k
  rw [hb] at k
  have:=h.inj hi (px_lt hi) (by rw [e];exact k)
  have:=px_c L.length i
  omega
theorem Rg.cut {n:Nat} {L B N:List Nat} (h:Rg n L B N) {i v:Nat} (hi:i<L.length) (e:nt L i=v) (h2:2≤L.length):Rg n (L.eraseIdx i) (cutB B N v) (cutN B N v):=by
  obtain ⟨hv,hn,hb,hn2,hb2⟩:=h.at hi e
  have n64:=h.n64
  have lb:=h.lb
  have ln:=h.ln
  have hlen:(L.eraseIdx i).length=L.length - 1:=by rw [List.length_eraseIdx,if_pos hi]
  have hne:¬v=B.getD v 0:=by
    intro k
    rw [hb] at k
    have:=h.inj hi (px_lt hi) (by rw [e];exact k)
    unfold px at this;split at this <;> omega
  have hN:∀w,(cutN B N v).getD w 0=if w=B.getD v 0 then N.getD v 0 else N.getD w 0:=fun w=>by
    unfold cutN;rw [getD_set (by omega)]
  have hNv:(cutN B N v).getD v 0=N.getD v 0:=by rw [hN,if_neg hne]
  have hB:∀w,(cutB B N v).getD w 0=if w=N.getD v 0 then B.getD v 0 else B.getD w 0:=fun w=>by
    unfold cutB;rw [hNv,getD_set (by omega)]
  refine ⟨by unfold cutB;rw [List.length_set];exact lb,by unfold cutN;rw [List.length_set];exact ln,n64,fun j hj=> ?_,fun j k hjk hk=> ?_,fun j hj=> ?_,fun j hj=> ?_⟩
  · rw [getD_erase];have:=er_c i j;exact h.lt _ (by omega)
  · rw [getD_erase, getD_erase]
    have:=er_c i j
    have:=er_c i k
    exact h.srt _ _ (by omega) (by omega)
  · rw [hlen] at hj
    have hj3:er i j<L.length:=by have:=er_c i j;omega
    obtain ⟨e1,e2⟩:=er_sx hi h2 hj
    rw [getD_erase,hN,hb,hlen,getD_erase]
    by_cases k:nt L (er i j)=nt L (px L.length i)
    · rw [if_pos k,hn,e1 (h.inj hj3 (px_lt hi) k)]
    · rw [if_neg k,h.nx _ hj3,e2 (fun q=>k (by rw [q]))]
  · rw [hlen] at hj
    have hj3:er i j<L.length:=by have:=er_c i j;omega
    obtain ⟨e1,e2⟩:=er_px hi h2 hj
    rw [getD_erase,hB,hn,hlen,getD_erase]
    by_cases k:nt L (er i j)=nt L (sx L.length i)
    · rw [if_pos k,hb,e1 (h.inj hj3 (sx_lt hi) k)]
    · rw [if_neg k,h.bf _ hj3,e2 (fun q=>k (by rw [q]))]
theorem range_nt {n i:Nat} (h:i<n):nt (List.range n) i=i:=by
  unfold nt;rw [List.getD_eq_getElem?_getD,List.getElem?_range h];rfl
theorem Rg.mk0 {n:Nat} {B N:List Nat} (h64:n≤64) (hB:B.length=64) (hN:N.length=64) (h:∀w,w<n→B.getD w 0=(w+n - 1)%n∧N.getD w 0=(w+1)%n):Rg n (List.range n) B N:=by
  have hl:(List.range n).length=n:=List.length_range
  refine ⟨hB,hN,h64,fun i hi=> ?_,fun i j hij hj=> ?_,fun i hi=> ?_,fun i hi=> ?_⟩
  · rw [hl] at hi;rw [range_nt hi];exact hi
  · rw [hl] at hj;rw [range_nt (by omega),range_nt hj];exact hij
  · rw [hl] at hi
    rw [range_nt hi,hl,range_nt (sx_lt hi),(h i hi).2]
    have:=sx_c n i
    rcases this with ⟨h1,h2⟩|⟨h1,h2⟩
    · rw [h2,Nat.mod_eq_of_lt h1]
    · rw [h2,show i+1=n by omega,Nat.mod_self]
  · rw [hl] at hi
    rw [range_nt hi,hl,range_nt (px_lt hi),(h i hi).1]
    have:=px_c n i
    rcases this with ⟨h1,h2⟩|⟨h1,h2⟩
    · rw [h2,h1,Nat.zero_add,Nat.mod_eq_of_lt (by omega)]
    · rw [h2,show i+n - 1=n+(i - 1) by omega,Nat.add_mod_left,Nat.mod_eq_of_lt (by omega)]
theorem md_c {x m:Nat} (h:x<2*m):x<m∧x%m=x∨m≤x∧x%m=x - m:=by
  by_cases k:x<m
  · exact .inl ⟨k,Nat.mod_eq_of_lt k⟩
  · refine .inr ⟨by omega, ?_⟩
    rw [Nat.mod_eq_sub_mod (by omega),Nat.mod_eq_of_lt (by omega)]
theorem sx_md {m x:Nat} (hm:0<m):sx m (x%m)=(x+1)%m:=by
  have h1:=Nat.mod_lt x hm
  have h2:(x+1)%m=(x%m+1)%m:=by rw [Nat.mod_add_mod]
  rw [h2]
  rcases sx_c m (x%m) with ⟨h3,h4⟩|⟨h3,h4⟩
  · rw [h4,Nat.mod_eq_of_lt h3]
  · rw [h4,show x%m+1=m by omega,Nat.mod_self]
theorem Rg.nxm {n:Nat} {L B N:List Nat} (h:Rg n L B N) (x:Nat) (hm:0<L.length):N.getD (nt L (x%L.length)) 0=nt L ((x+1)%L.length):=by
  rw [h.nx _ (Nat.mod_lt _ hm),sx_md hm]
theorem Rg.nx2 {n:Nat} {L B N:List Nat} (h:Rg n L B N) {i v:Nat} (hi:i<L.length) (e:nt L i=v):N.getD (N.getD v 0) 0=nt L ((i+2+0)%L.length):=by
  have h1:=h.nxm i (by omega)
  have h2:=h.nxm (i+1) (by omega)
  rw [Nat.mod_eq_of_lt hi,e] at h1
  rw [h1,h2]
theorem stop_iff {n:Nat} {L B N:List Nat} (h:Rg n L B N) {i t:Nat} (hi:i<L.length) (h3:3≤L.length) (ht:t≤L.length - 3):nt L ((i+2+t)%L.length)=nt L (px L.length i)↔t=L.length - 3:=by
  have h1:=md_c (x:=i+2+t) (m:=L.length) (by omega)
  have h2:=px_c L.length i
  constructor
  · intro e
    have:=h.inj (Nat.mod_lt _ (by omega)) (px_lt hi) e
    omega
  · intro e
    rw [show (i+2+t)%L.length=px L.length i by omega]
def corn (l:List P2) (s:Int) (L:List Nat) (i:Nat):Int:=s*(crs (gt l (nt L (px L.length i))) (gt l (nt L i)) (gt l (nt L (sx L.length i)))).sign
def in3 (s:Int) (a b c q:P2):Prop:=0≤s*(crs a b q).sign∧0≤s*(crs b c q).sign∧0≤s*(crs c a q).sign
instance (s:Int) (a b c q:P2):Decidable (in3 s a b c q):=inferInstanceAs (Decidable (_∧_))
def in3I (l:List P2) (s:Int) (L:List Nat) (i t:Nat):Prop:=in3 s (gt l (nt L (px L.length i))) (gt l (nt L i)) (gt l (nt L (sx L.length i))) (gt l (nt L ((i+2+t)%L.length)))
instance (l:List P2) (s:Int) (L:List Nat) (i t:Nat):Decidable (in3I l s L i t):=inferInstanceAs (Decidable (in3 ..))
def earI (l:List P2) (s:Int) (L:List Nat) (i:Nat):Prop:=0<corn l s L i∧∀t,t<L.length - 3→¬in3I l s L i t
instance (l:List P2) (s:Int) (L:List Nat) (i:Nat):Decidable (earI l s L i):=inferInstanceAs (Decidable (_∧_))
theorem s_mul {s z:Int} (hs:s=1∨s= -1): -1≤s*z.sign∧s*z.sign≤1:=by
  have:=sgn_rng z
  rcases hs with rfl|rfl <;> omega
def fst (m:Nat) (P:Nat→Prop) [DecidablePred P]:Option Nat:=(List.range m).find? (fun i=>decide (P i))
theorem fst_some {m k:Nat} {P:Nat→Prop} [DecidablePred P] (hk:k<m) (hp:P k) (hn:∀j,j<k→¬P j):fst m P=some k:=by
  unfold fst
  rw [List.find?_eq_some_iff_append]
  refine ⟨by simpa using hp,List.range k,(List.range' (k+1) (m - k - 1)),?_,fun a ha=> ?_⟩
  · refine List.ext_getElem (by simp; omega) fun i h1 h2 => ?_
    rw [List.getElem_range,List.getElem_append]
    split
    · rw [List.getElem_range]
    · rw [List.getElem_cons]
      have hlk:(List.range k).length=k:=List.length_range
      have h1':i<m:=by simpa using h1
      split
      · omega
      · rw [List.getElem_range'];omega
  · have:=hn a (by simpa using ha);simpa using this
theorem fst_none {m:Nat} {P:Nat→Prop} [DecidablePred P] (hn:∀j,j<m→¬P j):fst m P=none:=by
  unfold fst
  rw [List.find?_eq_none]
  intro a ha
  have:=hn a (by simpa using ha);simpa using this
def Fst (L:List Nat) (P:Nat→Prop) (r:Int):Prop:=(∃k,k<L.length∧r=((nt L k:Nat):Int)∧P k∧∀j,j<k→¬P j)∨(r= -1∧∀j,j<L.length→¬P j)
structure Fs (n:Nat) (L:List Nat) (P:Nat→Prop) (v k:Nat):Prop where
  vn:v≤n
  km:k≤L.length
  lo:∀j,j<k→nt L j<v
  hi:∀j,k≤j→j<L.length→v≤nt L j
  no:∀j,j<k→¬P j
def Gn (n:Nat) (L:List Nat) (G:List Bool):Prop:=G.length=n∧∀v,v<n→(G.getD v false=true↔∀i,i<L.length→nt L i≠v)
theorem Fs.zero {n:Nat} {L:List Nat} {P:Nat→Prop}:Fs n L P 0 0:=⟨Nat.zero_le _,Nat.zero_le _,fun j h=>absurd h (by omega),fun j _ _=>Nat.zero_le _,fun j h=>absurd h (by omega)⟩
theorem Fs.skip {n:Nat} {L:List Nat} {P:Nat→Prop} {v k:Nat} {G:List Bool} (h:Fs n L P v k) (hg:Gn n L G) (hv:v<n) (hb:G.getD v false=true):Fs n L P (v+1) k:=by
  have h1:=(hg.2 v hv).1 hb
  refine ⟨hv,h.km,fun j hj=>Nat.lt_succ_of_lt (h.lo j hj),fun j hj hl=> ?_,h.no⟩
  have:=h.hi j hj hl
  have:=h1 j hl
  omega
theorem Fs.here {n:Nat} {L B N:List Nat} {P:Nat→Prop} {v k:Nat} {G:List Bool} (h:Fs n L P v k) (hr:Rg n L B N) (hg:Gn n L G) (hv:v<n) (hb:¬G.getD v false=true):k<L.length∧nt L k=v:=by
  have h1:∃i,i<L.length∧nt L i=v:=by
    refine Decidable.byContradiction fun hc=>hb ((hg.2 v hv).2 fun i hi he=>hc ⟨i,hi,he⟩)
  obtain ⟨i,hi,he⟩:=h1
  have h2:k≤i:=Decidable.byContradiction fun hc=>by have:=h.lo i (by omega);omega
  have h3:=h.hi k (Nat.le_refl _) (by omega)
  by_cases e:k=i
  · subst e;exact ⟨hi,he⟩
  · have:=hr.srt k i (by omega) hi;omega
theorem Fs.next {n:Nat} {L B N:List Nat} {P:Nat→Prop} {v k:Nat} (h:Fs n L P v k) (hr:Rg n L B N) (hv:v<n) (hk:k<L.length∧nt L k=v) (hp:¬P k):Fs n L P (v+1) (k+1):=by
  refine ⟨hv,hk.1,fun j hj=> ?_,fun j hj hl=> ?_,fun j hj=> ?_⟩
  · by_cases e : j = k
    · subst e;omega
    · have:=h.lo j (by omega);omega
  · have:=hr.srt k j (by omega) hl;omega
  · by_cases e : j = k
    · subst e;exact hp
    · exact h.no j (by omega)
theorem Fs.fin {n:Nat} {L B N:List Nat} {P:Nat→Prop} {k:Nat} (h:Fs n L P n k) (hr:Rg n L B N):∀j,j<L.length→¬P j:=fun j hj=>by
  by_cases e:j<k
  · exact h.no j e
  · have := h.hi j (by omega) hj
    have:=hr.lt j hj
    omega
theorem Gn.zero {n:Nat}:Gn n (List.range n) (List.replicate n false):=by
  refine ⟨List.length_replicate,fun v hv=> ?_⟩
  rw [List.getD_eq_getElem?_getD,List.getElem?_replicate,if_pos hv]
  simp only [Option.getD_some,List.length_range]
  exact ⟨fun h=>(by cases h),fun h=>absurd (range_nt hv) (h v hv)⟩
theorem Gn.set {n:Nat} {L B N:List Nat} {G:List Bool} {k v:Nat} (h:Gn n L G) (hr:Rg n L B N) (hk:k<L.length) (e:nt L k=v):Gn n (L.eraseIdx k) (G.set v true):=by
  have hv:v<n:=e ▸ hr.lt k hk
  have hlen:(L.eraseIdx k).length=L.length - 1:=by rw [List.length_eraseIdx,if_pos hk]
  refine ⟨by rw [List.length_set];exact h.1,fun w hw=> ?_⟩
  rw [List.getD_eq_getElem?_getD,List.getElem?_set,hlen]
  have h1:=h.1
  by_cases ew:v=w
  · subst ew
    rw [if_pos rfl,if_pos (by omega)]
    refine ⟨fun _ i hi hc=> ?_,fun _=>rfl⟩
    rw [getD_erase] at hc
    have h3:=er_c k i
    have:=hr.inj (i:=er k i) (j:=k) (by omega) hk (by rw [hc,e])
    omega
  · rw [if_neg ew, ← List.getD_eq_getElem?_getD, h.2 w hw]
    constructor
    · intro hc i hi
      rw [getD_erase]
      have h3:=er_c k i
      exact hc _ (by omega)
    · intro hc i hi he
      by_cases ek:i=k
      · subst ek;exact ew (e.symm.trans he)
      · by_cases el : i < k
        · have h4 := hc i (by omega)
          rw [getD_erase] at h4
          have h3:=er_c k i
          rw [show er k i=i by omega] at h4;exact h4 he
        · have h4 := hc (i - 1) (by omega)
          rw [getD_erase] at h4
          have h3:=er_c k (i - 1)
          rw [show er k (i - 1)=i by omega] at h4;exact h4 he
def tri (L:List Nat) (i:Nat):T3:=(((nt L (px L.length i):Nat):Int),((nt L i:Nat):Int),((nt L (sx L.length i):Nat):Int))
def ears (l:List P2) (s:Int):Nat→List Nat→List T3→Option (List T3)
  |0,L,out=>some (out++[(((nt L 0:Nat):Int),((nt L 1:Nat):Int),((nt L 2:Nat):Int))])
  |f+1,L,out=>match fst L.length (earI l s L) with
    |none=>none
    |some i=>ears l s f (L.eraseIdx i) (out++[tri L i])
theorem ears_some {l:List P2} {s:Int} {L:List Nat} {out:List T3} {k:Nat} (h3:3<L.length) (hk:k<L.length) (hp:earI l s L k) (hn:∀j,j<k→¬earI l s L j):ears l s (L.length - 3) L out=ears l s ((L.eraseIdx k).length - 3) (L.eraseIdx k) (out++[tri L k]):=by
  have hlen:(L.eraseIdx k).length=L.length - 1:=by rw [List.length_eraseIdx,if_pos hk]
  rw [show L.length - 3=(L.length - 4)+1 by omega,hlen,show L.length - 1 - 3=L.length - 4 by omega]
  conv=>lhs;unfold ears
  rw [fst_some hk hp hn]
theorem ears_none {l:List P2} {s:Int} {L:List Nat} {out:List T3} (h3:3<L.length) (hn:∀j,j<L.length→¬earI l s L j):ears l s (L.length - 3) L out=none:=by
  rw [show L.length - 3=(L.length - 4)+1 by omega]
  unfold ears
  rw [fst_none hn]
theorem ears_end {l:List P2} {s:Int} {L:List Nat} {out:List T3} (h3:L.length=3):ears l s (L.length - 3) L out=some (out++[(((nt L 0:Nat):Int),((nt L 1:Nat):Int),((nt L 2:Nat):Int))]):=by
  rw [h3];rfl
def earO (l:List P2):Option (List T3):=ears l (sg l) (l.length - 3) (List.range l.length) []
def erC (l:List P2):Int:=if ck l≠0 then ck l else if (earO l).isSome then 0 else 11
def erV (l:List P2):List T3:=if ck l≠0 then [] else (earO l).getD []
theorem er_bad {l:List P2} (h:ck l≠0):erV l=[]∧erC l=ck l:=by unfold erV erC;rw [if_pos h,if_pos h];exact ⟨rfl,rfl⟩
theorem er_none {l:List P2} (h:ck l=0) (h2:earO l=none):erV l=[]∧erC l=11:=by unfold erV erC;rw [if_neg (fun k=>k h),if_neg (fun k=>k h),h2];exact ⟨rfl,rfl⟩
theorem er_some {l:List P2} {o:List T3} (h:ck l=0) (h2:earO l=some o):erV l=o∧erC l=0:=by unfold erV erC;rw [if_neg (fun k=>k h),if_neg (fun k=>k h),h2];exact ⟨rfl,rfl⟩
end Go.Proofs.YtjcpbhlijoigfaaGreat.Pg
namespace Go.Proofs.YtjcpbhlijoigfaaGreat.Pg
set_option linter.unusedVariables false
theorem betw_sw {a b p:P2}:betw a b p↔betw b a p:=by unfold betw;omega
theorem onS_sw {a b p:P2}:onS a b p↔onS b a p:=by
  unfold onS;rw [crs_sw a b,betw_sw]
  constructor <;> intro h <;> exact ⟨by omega,h.2⟩
theorem mt_comm {a b c d:P2}:mt a b c d↔mt c d a b:=by
  unfold mt mt0 mt1
  constructor
  · rintro (⟨h1, h2⟩ | h | h | h | h)
    · exact .inl ⟨h2,h1⟩
    · exact .inr (.inr (.inr (.inl h)))
    · exact .inr (.inr (.inr (.inr h)))
    · exact .inr (.inl h)
    · exact .inr (.inr (.inl h))
  · rintro (⟨h1, h2⟩ | h | h | h | h)
    · exact .inl ⟨h2,h1⟩
    · exact .inr (.inr (.inr (.inl h)))
    · exact .inr (.inr (.inr (.inr h)))
    · exact .inr (.inl h)
    · exact .inr (.inr (.inl h))
theorem mt_sw1 {a b c d:P2} (h:mt a b c d):mt b a c d:=by
  unfold mt mt0 mt1 at*
  rcases h with ⟨h1,h2⟩|h|h|h|h
  · refine .inl ⟨?_, by rw [Int.mul_comm]; exact h2⟩
    rw [crs_sw a b c,crs_sw a b d,Int.sign_neg,Int.sign_neg,Int.neg_mul_neg];exact h1
  · exact .inr (.inl (onS_sw.1 h))
  · exact .inr (.inr (.inl (onS_sw.1 h)))
  · exact .inr (.inr (.inr (.inr h)))
  · exact .inr (.inr (.inr (.inl h)))
theorem mt_sw {a b c d:P2} (h:mt a b c d):mt b a d c:=mt_sw1 (mt_comm.1 (mt_sw1 (mt_comm.1 h)))
structure Sm (n:Nat) (l:List P2):Prop where
  len:l.length=n
  n3:3≤n
  n64:n≤64
  nd:l.Nodup
  a:∀i,i<n→¬smA n l i
  b:∀i j,i<n→j<n→i≠j→(i+1)%n≠j→(j+1)%n≠i→¬mt (gt l i) (gt l ((i+1)%n)) (gt l j) (gt l ((j+1)%n))
theorem ck1_iff {l:List P2}:∀{s:List P2},ck1 s l=0↔(∀x∈l,inR x)∧l.Nodup∧∀x∈l,x ∉ s:=by
  induction l with
  |nil=>intro s;exact ⟨fun _=>⟨fun x h=>(by cases h),List.nodup_nil,fun x h=>(by cases h)⟩,fun _=>rfl⟩
  |cons a l ih=>
    intro s
    unfold ck1
    by_cases hf:far a=true
    · rw [if_pos hf]
      refine ⟨fun h=>absurd h (by decide),fun h=> ?_⟩
      have:=h.1 a (List.mem_cons_self ..)
      unfold far at hf;simp at hf;exact absurd this hf
    rw [if_neg hf]
    by_cases hd:a∈s
    · rw [if_pos hd]
      exact ⟨fun h=>absurd h (by decide),fun h=>absurd hd (h.2.2 a (List.mem_cons_self ..))⟩
    rw [if_neg hd,ih]
    constructor
    · rintro ⟨h1, h2, h3⟩
      refine ⟨fun x hx=> ?_,List.nodup_cons.2 ⟨fun hm=>h3 a hm (by simp),h2⟩,fun x hx=> ?_⟩
      · rcases List.mem_cons.1 hx with rfl | hx
        · exact far_no hf
        · exact h1 x hx
      · rcases List.mem_cons.1 hx with rfl | hx
        · exact hd
        · exact fun hs=>h3 x hx (by simp [hs])
    · rintro ⟨h1, h2, h3⟩
      obtain ⟨h4,h5⟩:=List.nodup_cons.1 h2
      refine ⟨fun x hx=>h1 x (List.mem_cons_of_mem _ hx),h5,fun x hx hm=> ?_⟩
      rcases List.mem_append.1 hm with hm|hm
      · exact h3 x (List.mem_cons_of_mem _ hx) hm
      · rw [List.mem_singleton] at hm;subst hm;exact h4 hx
theorem Sm.of {l:List P2} (h:ck l=0):Sm l.length l:=by
  have ho:=ok h
  have h1:ck1 [] l=0:=by
    unfold ck at h
    have h3:=ho.n3
    have h64:=ho.n64
    rw [if_neg (by omega)] at h
    by_cases k:ck1 [] l=0
    · exact k
    · rw [if_pos k] at h;exact absurd h k
  refine ⟨rfl,ho.n3,ho.n64,(ck1_iff.1 h1).2.1,fun i hi=>(ho.smp i hi).1,fun i j hi hj hij h4 h5 hm=> ?_⟩
  have h3:=ho.n3
  by_cases k:i<j
  · refine (ho.smp i hi).2 j hj ⟨?_, h5, hm⟩
    rw [Nat.mod_eq_of_lt (by omega)] at h4;omega
  · refine (ho.smp j hj).2 i hi ⟨?_, h4, mt_comm.1 hm⟩
    rw [Nat.mod_eq_of_lt (by omega)] at h5;omega
theorem Sm.ck {n:Nat} {l:List P2} (h:Sm n l) (hr:∀x∈l,inR x):ck l=0:=by
  have hl:=h.len
  have h3:=h.n3
  have h64:=h.n64
  refine ck_ok (by omega) (ck1_iff.2 ⟨hr,h.nd,fun x _ hx=>by cases hx⟩) ((smp_n hl).2 fun i hi=>⟨h.a i hi,fun j hj hb=> ?_⟩)
  refine h.b i j hi hj (by have:=hb.1;omega) ?_ hb.2.1 hb.2.2
  have:=hb.1
  rw [Nat.mod_eq_of_lt (by omega)];omega
structure Turn (n:Nat) (l l':List P2) (t:Nat→Nat) (e:Nat→Nat) (rv:Bool):Prop where
  len:l.length=n
  len':l'.length=n
  pos:0<n
  e_lt:∀i,i<n→e i<n
  e_inj:∀i j,i<n→j<n→e i=e j→i=j
  e_perm:((List.range n).map e).Perm (List.range n)
  nx:∀i j,i<n→j<n→(e i+1)%n=e j→(if rv then (j+1)%n=i else (i+1)%n=j)
  at1:∀i,i<n→(if rv then gt l' i=gt l ((e i+1)%n)∧gt l' ((i+1)%n)=gt l (e i) else gt l' i=gt l (e i)∧gt l' ((i+1)%n)=gt l ((e i+1)%n))
theorem Turn.onE {n:Nat} {l l':List P2} {t e:Nat→Nat} {rv:Bool} (h:Turn n l l' t e rv) {q:P2} {i:Nat} (hi:i<n):onS (gt l' i) (gt l' ((i+1)%n)) q↔onS (gt l (e i)) (gt l ((e i+1)%n)) q:=by
  have h2:=h.at1 i hi
  cases rv
  · simp only [Bool.false_eq_true,if_false] at h2;rw [h2.1,h2.2]
  · simp only [if_true] at h2;rw [h2.1,h2.2];exact onS_sw
theorem Turn.onB {n:Nat} {l l':List P2} {t e:Nat→Nat} {rv:Bool} (h:Turn n l l' t e rv) (q:P2):onB l' q↔onB l q:=by
  have hl:=h.len
  have hl':=h.len'
  unfold Pg.onB
  rw [hl,hl']
  constructor
  · rintro ⟨i, hi, ho⟩
    exact ⟨e i,h.e_lt i hi,(h.onE hi).1 ho⟩
  · rintro ⟨j, hj, ho⟩
    have hm:j∈(List.range n).map e:=h.e_perm.mem_iff.2 (by simpa using hj)
    obtain ⟨i,hi,rfl⟩:=List.mem_map.1 hm
    have hi':i<n:=by simpa using hi
    exact ⟨i,hi',(h.onE hi').2 ho⟩
theorem Turn.mt {n:Nat} {l l':List P2} {t e:Nat→Nat} {rv:Bool} (h:Turn n l l' t e rv) {i j:Nat} (hi:i<n) (hj:j<n) (hm:mt (gt l' i) (gt l' ((i+1)%n)) (gt l' j) (gt l' ((j+1)%n))):Pg.mt (gt l (e i)) (gt l ((e i+1)%n)) (gt l (e j)) (gt l ((e j+1)%n)):=by
  have h2:=h.at1 i hi
  have h3:=h.at1 j hj
  cases rv
  · simp only [Bool.false_eq_true,if_false] at h2 h3;rw [h2.1,h2.2,h3.1,h3.2] at hm;exact hm
  · simp only [if_true] at h2 h3;rw [h2.1,h2.2,h3.1,h3.2] at hm;exact mt_sw hm
theorem Turn.b {n:Nat} {l l':List P2} {t e:Nat→Nat} {rv:Bool} (h:Turn n l l' t e rv) (hs:Sm n l) {i j:Nat} (hi:i<n) (hj:j<n) (hij:i≠j) (h1:(i+1)%n≠j) (h2:(j+1)%n≠i):¬Pg.mt (gt l' i) (gt l' ((i+1)%n)) (gt l' j) (gt l' ((j+1)%n)):=by
  intro hm
  refine hs.b (e i) (e j) (h.e_lt i hi) (h.e_lt j hj) (fun k=>hij (h.e_inj i j hi hj k)) (fun k=> ?_) (fun k=> ?_) (h.mt hi hj hm)
  · have := h.nx i j hi hj k
    cases rv
    · simp only [Bool.false_eq_true,if_false] at this;exact h1 this
    · simp only [if_true] at this;exact h2 this
  · have := h.nx j i hj hi k
    cases rv
    · simp only [Bool.false_eq_true,if_false] at this;exact h2 this
    · simp only [if_true] at this;exact h1 this
theorem gt_rev {l:List P2} {n i:Nat} (hn:l.length=n) (hi:i<n):gt l.reverse i=gt l (n - 1 - i):=by
  unfold gt
  rw [List.getD_eq_getElem?_getD,List.getElem?_reverse (by omega),List.getD_eq_getElem?_getD,hn]
def sh (d e:Int) (p:P2):P2:=(p.1+d,p.2+e)
theorem crs_sh (d e:Int) (a b c:P2):crs (sh d e a) (sh d e b) (sh d e c)=crs a b c:=by
  unfold crs sh
  dsimp only
  rw [show b.1+d - (a.1+d)=b.1 - a.1 by omega,show c.2+e - (a.2+e)=c.2 - a.2 by omega,show b.2+e - (a.2+e)=b.2 - a.2 by omega,show c.1+d - (a.1+d)=c.1 - a.1 by omega]
structure Rv (n:Nat) (l X:List P2) (i:Nat):Prop where
  len:X.length=n
  le:2*i≤n+1
  at1:∀m,m<n→gt X m=if m<i∨n≤m+i then gt l (n - 1 - m) else gt l m
theorem Rv.zero {n:Nat} {l:List P2} (hn:l.length=n):Rv n l l 0:=⟨hn,by omega,fun m hm=>by rw [if_neg (by omega)]⟩
theorem gt_set {X:List P2} {i m:Nat} {x:P2} (h:i<X.length):gt (X.set i x) m=if m=i then x else gt X m:=by
  unfold gt
  rw [List.getD_eq_getElem?_getD,List.getElem?_set,List.getD_eq_getElem?_getD]
  by_cases e:i=m
  · subst e;rw [if_pos rfl,if_pos rfl,if_pos h];rfl
  · rw [if_neg e,if_neg (fun k=>e k.symm)]
theorem Rv.step {n i:Nat} {l X:List P2} (h:Rv n l X i) (hi:i<n - 1 - i):Rv n l ((X.set i (gt X (n - 1 - i))).set (n - 1 - i) (gt X i)) (i+1):=by
  have hl:=h.len
  refine ⟨by rw [List.length_set,List.length_set];exact hl,by omega,fun m hm=> ?_⟩
  rw [gt_set (by rw [List.length_set];omega),gt_set (by omega),h.at1 i (by omega),h.at1 (n - 1 - i) (by omega),h.at1 m hm]
  by_cases e1:m=n - 1 - i
  · rw [if_pos e1,if_neg (by omega),if_pos (by omega),show n - 1 - m=i by omega]
  rw [if_neg e1]
  by_cases e2:m=i
  · rw [if_pos e2,if_neg (by omega),if_pos (by omega),e2]
  rw [if_neg e2]
  by_cases e3:m<i∨n≤m+i
  · rw [if_pos e3,if_pos (by omega)]
  · rw [if_neg e3,if_neg (by omega)]
theorem Rv.fin {n i:Nat} {l X:List P2} (h:Rv n l X i) (hn:l.length=n) (hi:n≤2*i+1):X=l.reverse:=by
  have hl:=h.len
  refine Ms.ext_getD (0,0) (by rw [List.length_reverse];omega) fun m hm=> ?_
  have h1:=h.at1 m (by omega)
  have h2:=gt_rev hn (i:=m) (by omega)
  show gt X m=gt l.reverse m
  rw [h1,h2]
  split
  · rfl
  · rw [show n - 1 - m=m by omega]
end Go.Proofs.YtjcpbhlijoigfaaGreat.Pg
namespace Go.Proofs.YtjcpbhlijoigfaaGreat.Pg
set_option linter.unusedVariables false
abbrev E2:=Int×Int
section
variable {α : Type} [DecidableEq α]
theorem nd_len {I:List α}:∀{O:List α},I.Nodup→(∀x∈I,x∈O)→I.length≤O.length:=by
  induction I with
  |nil=>intro O _ _;exact Nat.zero_le _
  |cons a I ih=>
    intro O hn hs
    obtain ⟨h1,h2⟩:=List.nodup_cons.1 hn
    have ha:=hs a (List.mem_cons_self ..)
    have h3:=ih (O:=O.erase a) h2 fun x hx=>(List.mem_erase_of_ne (fun e=>h1 (by subst e;exact hx))).2 (hs x (List.mem_cons_of_mem _ hx))
    rw [List.length_erase_of_mem ha] at h3
    have:=List.length_pos_of_mem ha
    rw [List.length_cons];omega
theorem nd_lt {I O:List α} (hn:I.Nodup) (hs:∀x∈I,x∈O) {a:α} (ha:a∈O) (hi:a ∉ I):I.length<O.length:=by
  have:=nd_len (I:=a :: I) (O:=O) (List.nodup_cons.2 ⟨hi,hn⟩) (fun x hx=>by rcases List.mem_cons.1 hx with rfl|hx;exact ha;exact hs x hx)
  rwa [List.length_cons] at this
end
def edg (x:T3):List E2:=[(x.1,x.2.1),(x.2.1,x.2.2),(x.2.2,x.1)]
def eds (T:List T3):List E2:=T.flatMap edg
def nxi (n:Nat) (a:Int):Int:=(a+1)%(n:Int)
structure Tg (n:Nat) (T:List T3):Prop where
  n3:3≤n
  len:T.length=n - 2
  rng:∀x∈T,(0≤x.1∧x.1<n)∧(0≤x.2.1∧x.2.1<n)∧(0≤x.2.2∧x.2.2<n)
  nd:(eds T).Nodup
  rev:∀e∈eds T,e.2≠nxi n e.1→(e.2,e.1)∈eds T
  bnd:∀a:Int,0≤a→a<n→(a,nxi n a)∈eds T
theorem eds_cons (x:T3) (T:List T3):eds (x :: T)=edg x++eds T:=rfl
theorem nxi_c {n:Nat} {a:Int} (h0:0≤a) (h:a<n):a+1<n∧nxi n a=a+1∨a+1=n∧nxi n a=0:=by
  unfold nxi
  by_cases k:a+1<n
  · exact .inl ⟨k,Int.emod_eq_of_lt (by omega) k⟩
  · refine .inr ⟨by omega, ?_⟩
    rw [show a+1=(n:Int) by omega,Int.emod_self]
theorem Tg.er {n:Nat} {T:List T3} (h:Tg n T) {e:E2} (he:e∈eds T):(0≤e.1∧e.1<n)∧(0≤e.2∧e.2<n):=by
  obtain ⟨x,hx,hm⟩:=List.mem_flatMap.1 he
  obtain ⟨h1,h2,h3⟩:=h.rng x hx
  unfold edg at hm
  rcases List.mem_cons.1 hm with rfl|hm
  · exact ⟨h1,h2⟩
  rcases List.mem_cons.1 hm with rfl|hm
  · exact ⟨h2,h3⟩
  rw [List.mem_singleton] at hm;subst hm
  exact ⟨h3,h1⟩
def outL (T:List T3) (χ:Int→Bool) (v:Int):List Int:=((eds T).filter (fun e=>decide (e.1=v)&&χ e.2)).map (·.2)
def inL (T:List T3) (χ:Int→Bool) (v:Int):List Int:=((eds T).filter (fun e=>decide (e.2=v)&&χ e.1)).map (·.1)
theorem mem_out {T:List T3} {χ:Int→Bool} {v x:Int}:x∈outL T χ v↔(v,x)∈eds T∧χ x=true:=by
  unfold outL
  rw [List.mem_map]
  constructor
  · rintro ⟨e, he, rfl⟩
    obtain ⟨h1,h2⟩:=List.mem_filter.1 he
    simp only [Bool.and_eq_true,decide_eq_true_eq] at h2
    exact ⟨by rw [← h2.1];exact h1,h2.2⟩
  · rintro ⟨h1, h2⟩
    exact ⟨(v,x),List.mem_filter.2 ⟨h1,by simp [h2]⟩,rfl⟩
theorem mem_in {T:List T3} {χ:Int→Bool} {v x:Int}:x∈inL T χ v↔(x,v)∈eds T∧χ x=true:=by
  unfold inL
  rw [List.mem_map]
  constructor
  · rintro ⟨e, he, rfl⟩
    obtain ⟨h1,h2⟩:=List.mem_filter.1 he
    simp only [Bool.and_eq_true,decide_eq_true_eq] at h2
    exact ⟨by rw [← h2.1];exact h1,h2.2⟩
  · rintro ⟨h1, h2⟩
    exact ⟨(x,v),List.mem_filter.2 ⟨h1,by simp [h2]⟩,rfl⟩
theorem nd_map {β γ:Type} {l:List β} {f:β→γ} (hl:l.Nodup) (hf:∀a∈l,∀b∈l,f a=f b→a=b):(l.map f).Nodup:=by
  induction l with
  |nil=>exact List.nodup_nil
  |cons a l ih=>
    obtain ⟨h1,h2⟩:=List.nodup_cons.1 hl
    rw [List.map_cons]
    refine List.nodup_cons.2 ⟨fun hm=> ?_,ih h2 fun x hx y hy=>hf x (List.mem_cons_of_mem _ hx) y (List.mem_cons_of_mem _ hy)⟩
    obtain ⟨b,hb,e⟩:=List.mem_map.1 hm
    exact h1 ((hf b (List.mem_cons_of_mem _ hb) a (List.mem_cons_self ..) e) ▸ hb)
theorem nd_in {T:List T3} {χ:Int→Bool} {v:Int} (h:(eds T).Nodup):(inL T χ v).Nodup:=by
  unfold inL
  refine nd_map (h.filter _) fun a ha b hb e=> ?_
  have h1:=(List.mem_filter.1 ha).2
  have h2:=(List.mem_filter.1 hb).2
  simp only [Bool.and_eq_true,decide_eq_true_eq] at h1 h2
  exact Prod.ext e (h1.1.trans h2.1.symm)
def bal (χ:Int→Bool) (v:Int) (x:T3):Prop:=((edg x).filter (fun e=>decide (e.1=v)&&χ e.2)).length=((edg x).filter (fun e=>decide (e.2=v)&&χ e.1)).length
theorem bal_len {χ:Int→Bool} {v:Int}:∀{T:List T3},(∀x∈T,bal χ v x)→(outL T χ v).length=(inL T χ v).length:=by
  intro T
  unfold outL inL
  rw [List.length_map,List.length_map]
  induction T with
  |nil=>intro _;rfl
  |cons x T ih=>
    intro h
    rw [eds_cons,List.filter_append,List.filter_append,List.length_append,List.length_append,ih fun y hy=>h y (List.mem_cons_of_mem _ hy),h x (List.mem_cons_self ..)]
theorem bal_true {v:Int} (x:T3):bal (fun _=>true) v x:=by
  unfold bal edg
  simp only [Bool.and_true,List.filter_cons,List.filter_nil]
  by_cases a:x.1=v <;> by_cases b:x.2.1=v <;> by_cases c:x.2.2=v <;> simp [a,b,c]
theorem Tg.fan {n:Nat} {T:List T3} (h:Tg n T) {χ:Int→Bool} {u v:Int} (hu:0≤u∧u<n) (e:nxi n u=v) (hb:∀x∈T,bal χ v x) (hc:χ (nxi n v)=true) (hr:(nxi n v,v) ∉ eds T):χ u=true∧(v,u) ∉ eds T:=by
  have hv:0≤v∧v<n:=by have:=nxi_c hu.1 hu.2;omega
  have hl:=bal_len hb
  have ho:nxi n v∈outL T χ v:=mem_out.2 ⟨h.bnd v hv.1 hv.2,hc⟩
  have hi:nxi n v ∉ inL T χ v:=fun k=>hr (mem_in.1 k).1
  refine Decidable.byContradiction fun hk=> ?_
  have hs:∀x∈inL T χ v,x∈outL T χ v:=fun x hx=>by
    obtain ⟨h1,h2⟩:=mem_in.1 hx
    refine mem_out.2 ⟨?_,h2⟩
    by_cases k:v=nxi n x
    · have hx2 := h.er h1
      have hxu:x=u:=by
        have a1:=nxi_c hu.1 hu.2
        have hx3:(0≤x∧x<n):=hx2.1
        have a2:=nxi_c hx3.1 hx3.2
        omega
      subst hxu
      exact Decidable.byContradiction fun hm=>hk ⟨h2,hm⟩
    · exact h.rev _ h1 k
  have:=nd_lt (nd_in h.nd) hs ho hi
  omega
def pe (n:Nat) (e:E2):Bool:=decide (e.2=nxi n e.1)||decide (e.1=nxi n e.2)
theorem pe_two {n:Nat} (h4:4≤n) {x:T3} (hr:(0≤x.1∧x.1<n)∧(0≤x.2.1∧x.2.1<n)∧(0≤x.2.2∧x.2.2<n)):((edg x).filter (pe n)).length≤2:=by
  obtain ⟨h1,h2,h3⟩:=hr
  have a1:=nxi_c h1.1 h1.2
  have a2:=nxi_c h2.1 h2.2
  have a3:=nxi_c h3.1 h3.2
  have hk:¬(pe n (x.1,x.2.1)=true∧pe n (x.2.1,x.2.2)=true∧pe n (x.2.2,x.1)=true):=by
    unfold pe
    simp only [Bool.or_eq_true,decide_eq_true_eq]
    omega
  unfold edg
  simp only [List.filter_cons,List.filter_nil]
  by_cases b1:pe n (x.1,x.2.1)=true <;> by_cases b2:pe n (x.2.1,x.2.2)=true <;> by_cases b3:pe n (x.2.2,x.1)=true <;> simp [b1,b2,b3]
  exact hk ⟨b1,b2,b3⟩
theorem edg_len (x:T3):(edg x).length=3:=rfl
theorem pe_sum {n m:Nat}:∀{T:List T3},(∀x∈T,((edg x).filter (pe n)).length≤m)→((eds T).filter (pe n)).length≤m*T.length:=by
  intro T
  induction T with
  |nil=>intro _;exact Nat.zero_le _
  |cons x T ih=>
    intro h
    have h1:=h x (List.mem_cons_self ..)
    have h2:=ih fun y hy=>h y (List.mem_cons_of_mem _ hy)
    rw [eds_cons,List.filter_append,List.length_append,List.length_cons,Nat.mul_succ];omega
theorem Tg.some_no {n:Nat} {T:List T3} (h:Tg n T):∃v:Int,(0≤v∧v<n)∧(nxi n v,v) ∉ eds T:=by
  refine Classical.byContradiction fun hc=> ?_
  have hall:∀v:Int,0≤v→v<n→(nxi n v,v)∈eds T:=fun v h0 h1=>Decidable.byContradiction fun hm=>hc ⟨v,⟨h0,h1⟩,hm⟩
  have h3:=h.n3
  let F:=(List.range n).map (fun i:Nat=>((i:Int),nxi n (i:Int)))++(List.range n).map (fun i:Nat=>(nxi n (i:Int),(i:Int)))
  have hF:F.length=2*n:=by show (_++_:List E2).length=_;rw [List.length_append,List.length_map,List.length_map,List.length_range];omega
  have hnd:F.Nodup:=by
    refine List.nodup_append.2 ⟨nd_map List.nodup_range fun a _ b _ e=> ?_,nd_map List.nodup_range fun a _ b _ e=> ?_,fun a ha b hb e=> ?_⟩
    · have:=congrArg Prod.fst e;dsimp only at this;omega
    · have:=congrArg Prod.snd e;dsimp only at this;omega
    · obtain ⟨i, hi, e1⟩ := List.mem_map.1 ha
      obtain ⟨j,hj,e2⟩:=List.mem_map.1 hb
      rw [List.mem_range] at hi hj
      have a1:=nxi_c (n:=n) (a:=(i:Int)) (by omega) (by omega)
      have a2:=nxi_c (n:=n) (a:=(j:Int)) (by omega) (by omega)
      rw [← e1,←e2] at e
      have e3:=congrArg Prod.fst e
      have e4:=congrArg Prod.snd e
      dsimp only at e3 e4;omega
  have hsub:∀x∈F,x∈(eds T).filter (pe n):=fun x hx=>by
    rcases List.mem_append.1 hx with hx|hx
    · obtain ⟨i, hi, rfl⟩ := List.mem_map.1 hx
      rw [List.mem_range] at hi
      exact List.mem_filter.2 ⟨h.bnd _ (by omega) (by omega),by unfold pe;simp⟩
    · obtain ⟨i, hi, rfl⟩ := List.mem_map.1 hx
      rw [List.mem_range] at hi
      exact List.mem_filter.2 ⟨hall _ (by omega) (by omega),by unfold pe;simp⟩
  have h1:=nd_len hnd hsub
  rw [hF] at h1
  have hl:=h.len
  by_cases k:4≤n
  · have := pe_sum (n := n) (m := 2) fun x hx => pe_two k (h.rng x hx)
    omega
  · have := pe_sum (n := n) (m := 3) (T := T) fun x hx => Nat.le_trans (List.length_filter_le _ _) (Nat.le_of_eq (edg_len x))
    omega
theorem Tg.down {n:Nat} {T:List T3} (h:Tg n T) {v:Nat} (hv:v<n) (hp:(nxi n (v:Int),(v:Int)) ∉ eds T):∀w:Nat,w≤v→(nxi n (w:Int),(w:Int)) ∉ eds T:=by
  induction v with
  | zero => intro w hw; have e : w = 0 := by omega
            rw [e];exact hp
  |succ v ih=>
    intro w hw
    by_cases e:w=v+1
    · subst e;exact hp
    · refine ih (by omega) ?_ w (by omega)
      have a1:=nxi_c (n:=n) (a:=(v:Int)) (by omega) (by omega)
      have e1:nxi n (v:Int)=((v+1:Nat):Int):=by omega
      have:=(h.fan (χ:=fun _=>true) (u:=(v:Int)) (v:=((v+1:Nat):Int)) (by omega) e1 (fun x _=>bal_true x) rfl hp).2
      rw [e1];exact this
theorem Tg.no {n:Nat} {T:List T3} (h:Tg n T):∀v:Int,0≤v→v<n→(nxi n v,v) ∉ eds T:=by
  have h3:=h.n3
  obtain ⟨v0,⟨a,b⟩,hp⟩:=h.some_no
  obtain ⟨v,rfl⟩:∃v:Nat,v0=(v:Int):=⟨v0.toNat,by omega⟩
  have h0:=h.down (by omega) hp 0 (by omega)
  have a1:=nxi_c (n:=n) (a:=((n - 1:Nat):Int)) (by omega) (by omega)
  have e1:nxi n ((n - 1:Nat):Int)=((0:Nat):Int):=by omega
  have hn:=(h.fan (χ:=fun _=>true) (u:=((n - 1:Nat):Int)) (v:=((0:Nat):Int)) (by omega) e1 (fun x _=>bal_true x) rfl h0).2
  intro w hw hw2
  obtain ⟨k,rfl⟩:∃k:Nat,w=(k:Int):=⟨w.toNat,by omega⟩
  exact h.down (v:=n - 1) (by omega) (by rw [e1];exact hn) k (by omega)
end Go.Proofs.YtjcpbhlijoigfaaGreat.Pg
namespace Go.Proofs.YtjcpbhlijoigfaaGreat.Pg
set_option linter.unusedVariables false
def smE (f:E2→Int):List E2→Int
  |[]=>0
  |e :: L=>f e+smE f L
theorem smE_append (f:E2→Int) (A B:List E2):smE f (A++B)=smE f A+smE f B:=by
  induction A with
  |nil=>simp [smE]
  |cons a A ih=>rw [List.cons_append];simp only [smE];rw [ih];omega
theorem smE_perm {f:E2→Int} {A B:List E2} (h:A.Perm B):smE f A=smE f B:=by
  induction h with
  |nil=>rfl
  |cons a _ ih=>simp only [smE];rw [ih]
  |swap a b l=>simp only [smE];omega
  |trans _ _ h1 h2=>rw [h1,h2]
theorem smE_split (f:E2→Int) (p:E2→Bool) (A:List E2):smE f A=smE f (A.filter p)+smE f (A.filter (fun e=> !p e)):=by
  induction A with
  |nil=>rfl
  |cons a A ih=>
    rw [List.filter_cons,List.filter_cons]
    cases p a
    · simp only [Bool.false_eq_true,if_false,Bool.not_false,if_true,smE];rw [ih];omega
    · simp only [if_true,Bool.not_true,Bool.false_eq_true,if_false,smE];rw [ih];omega
theorem smE_map (f:E2→Int) (g:E2→E2) (A:List E2) (h:∀e∈A,f (g e)= - f e):smE f (A.map g)= - smE f A:=by
  induction A with
  |nil=>rfl
  |cons a A ih=>
    rw [List.map_cons]
    simp only [smE]
    rw [ih fun e he=>h e (List.mem_cons_of_mem _ he),h a (List.mem_cons_self ..)];omega
theorem zvf {A B:List E2} (ha:A.Nodup) (hb:B.Nodup) (h:∀e,e∈A↔e∈B):A.Perm B:=(List.perm_ext_iff_of_nodup ha hb).2 h
def pt (l:List P2) (a:Int):P2:=gt l a.toNat
def fx (l:List P2) (e:E2):Int:=(pt l e.1).1*(pt l e.2).2 - (pt l e.2).1*(pt l e.1).2
def cT (l:List P2) (x:T3):Int:=crs (pt l x.1) (pt l x.2.1) (pt l x.2.2)
theorem cT_edg (l:List P2) (x:T3):smE (fx l) (edg x)=cT l x:=by
  unfold edg cT crs fx
  simp only [smE]
  generalize (pt l x.1)=a
  generalize (pt l x.2.1)=b
  generalize (pt l x.2.2)=c
  grind
def cS (l:List P2):List T3→Int
  |[]=>0
  |x :: T=>cT l x+cS l T
theorem cS_eds (l:List P2):∀T,cS l T=smE (fx l) (eds T)
  |[]=>rfl
  |x :: T=>by rw [eds_cons,smE_append,cT_edg,←cS_eds l T];rfl
theorem db_sum {l:List P2} {n:Nat} (hn:l.length=n):∀i:Nat,i≤n→smE (fx l) ((List.range i).map (fun i:Nat=>((i:Int),nxi n (i:Int))))=dbN n l i
  |0,_=>rfl
  |i+1,hi=>by
    rw [List.range_succ,List.map_append,smE_append,db_sum hn i (by omega)]
    show dbN n l i+(fx l _+0)=dbN n l i+tm n l i
    rw [Int.add_zero]
    have e:(nxi n (i:Int)).toNat=(i+1)%n:=by
      have:=nxi_c (n:=n) (a:=(i:Int)) (by omega) (by omega)
      have:=md_c (x:=i+1) (m:=n) (by omega)
      omega
    unfold fx pt tm
    dsimp only
    rw [e]
    rfl
theorem Tg.area {n:Nat} {T:List T3} {l:List P2} (h:Tg n T) (hn:l.length=n):cS l T=db l:=by
  rw [cS_eds,smE_split _ (fun e=>decide (e.2=nxi n e.1))]
  have h3:=h.n3
  have hR:smE (fx l) ((eds T).filter (fun e=> !decide (e.2=nxi n e.1)))=0:=by
    have hnd:=h.nd.filter (fun e=> !decide (e.2=nxi n e.1))
    have hp:(((eds T).filter (fun e=> !decide (e.2=nxi n e.1))).map (fun e=>(e.2,e.1))).Perm ((eds T).filter (fun e=> !decide (e.2=nxi n e.1))):=by
      have hc:∀e∈(eds T).filter (fun e=> !decide (e.2=nxi n e.1)),(e.2,e.1)∈(eds T).filter (fun e=> !decide (e.2=nxi n e.1)):=fun e he=>by
        obtain ⟨h1,h2⟩:=List.mem_filter.1 he
        have h2':e.2≠nxi n e.1:=by simpa using h2
        have h4:=h.rev e h1 h2'
        have h5:=h.er h1
        refine List.mem_filter.2 ⟨h4,?_⟩
        have:e.1≠nxi n e.2:=fun k=>h.no e.2 h5.2.1 h5.2.2 (by rw [← k];exact h1)
        simpa using this
      refine zvf (nd_map hnd fun a _ b _ e=>Prod.ext (congrArg Prod.snd e) (congrArg Prod.fst e)) hnd fun e=>⟨fun he=> ?_,fun he=> ?_⟩
      · obtain ⟨g, hg, rfl⟩ := List.mem_map.1 he
        exact hc g hg
      · exact List.mem_map.2 ⟨(e.2,e.1),hc e he,rfl⟩
    have h1:=smE_perm (f:=fx l) hp
    have h2:=smE_map (fx l) (fun e:E2=>(e.2,e.1)) ((eds T).filter (fun e=> !decide (e.2=nxi n e.1))) (fun e _=>by unfold fx;dsimp only;omega)
    have key:∀z w:Int,z=w→w= -z→z=0:=fun z w a b=>by omega
    exact key _ _ h1.symm h2
  have hB:smE (fx l) ((eds T).filter (fun e=>decide (e.2=nxi n e.1)))=dbN n l n:=by
    rw [← db_sum hn n (Nat.le_refl _)]
    refine smE_perm (zvf (h.nd.filter _) (nd_map List.nodup_range fun a _ b _ e=>by have:=congrArg Prod.fst e;dsimp only at this;omega) fun e=>⟨fun he=> ?_,fun he=> ?_⟩)
    · obtain ⟨h1, h2⟩ := List.mem_filter.1 he
      have h2':e.2=nxi n e.1:=by simpa using h2
      have h5:=h.er h1
      refine List.mem_map.2 ⟨e.1.toNat,List.mem_range.2 (by omega),?_⟩
      have e1:((e.1.toNat:Nat):Int)=e.1:=by omega
      rw [e1];exact Prod.ext rfl h2'.symm
    · obtain ⟨i, hi, rfl⟩ := List.mem_map.1 he
      rw [List.mem_range] at hi
      exact List.mem_filter.2 ⟨h.bnd _ (by omega) (by omega),by simp⟩
  rw [hR,hB,Int.add_zero,db,hn]
theorem Sm.inj {n:Nat} {l:List P2} (h:Sm n l) {i j:Nat} (hi:i<n) (hj:j<n) (e:gt l i=gt l j):i=j:=by
  have hl:=h.len
  unfold gt at e
  rw [List.getD_eq_getElem?_getD,List.getD_eq_getElem?_getD,List.getElem?_eq_getElem (by omega),List.getElem?_eq_getElem (by omega)] at e
  have he2:l[i]'(by omega)=l[j]'(by omega):=e
  have hp:=List.pairwise_iff_getElem.1 h.nd
  rcases Nat.lt_trichotomy i j with k|k|k
  · exact absurd he2 (hp _ _ (by omega) (by omega) k)
  · exact k
  · exact absurd he2.symm (hp _ _ (by omega) (by omega) k)
end Go.Proofs.YtjcpbhlijoigfaaGreat.Pg
namespace Go.Proofs.YtjcpbhlijoigfaaGreat.Pg
set_option linter.unusedVariables false
def inT (n:Nat) (x:T3):Prop:=(0≤x.1∧x.1<n)∧(0≤x.2.1∧x.2.1<n)∧(0≤x.2.2∧x.2.2<n)
instance (n:Nat) (x:T3):Decidable (inT n x):=inferInstanceAs (Decidable (_∧_))
def acP (n:Nat) (l:List P2) (T:List T3):Prop:=(T.length:Int)=n - 2∧(∀x∈T,inT n x∧0<sg l*(cT l x).sign)∧(eds T).Nodup∧(∀e∈eds T,e.2≠nxi n e.1→(e.2,e.1)∈eds T)∧∀i:Nat,i<n→((i:Int),nxi n (i:Int))∈eds T
def tms (T:List T3) (a b:Int):Nat:=(eds T).count (a,b)
def acR (n:Nat) (l:List P2) (T:List T3):Prop:=(T.length:Int)=n - 2∧(∀x∈T,inT n x∧(cT l x).sign=(db l).sign)∧(∀e∈eds T,tms T e.1 e.2=1∧(e.2=nxi n e.1∨tms T e.2 e.1=1))∧∀i:Nat,i<n→tms T (i:Int) (nxi n (i:Int))=1
def t1 (p q a b:Int):Nat:=if p=a∧q=b then 1 else 0
instance (n:Nat) (l:List P2) (T:List T3):Decidable (acR n l T):=inferInstanceAs (Decidable (_∧_))
instance (n:Nat) (l:List P2) (T:List T3):Decidable (acP n l T):=inferInstanceAs (Decidable (_∧_))
end Go.Proofs.YtjcpbhlijoigfaaGreat.Pg
namespace Go.Proofs.YtjcpbhlijoigfaaGreat.Sw
set_option linter.unusedVariables false
theorem lt_or_le (a b:Rat):a<b∨b≤a:=by grind
theorem af_up {a b t1 t2:Rat} (h1:a+b*t1<0) (h2:0<a+b*t2) (h:t1<t2):0<b:=by
  rcases lt_or_le 0 b with k|k
  · exact k
  · have := Rat.mul_nonneg (show 0 ≤ -b by grind) (show 0 ≤ t2 - t1 by grind)
    grind
theorem af_dn {a b t1 t2:Rat} (h1:a+b*t1<0) (h2:0<a+b*t2) (h:t2<t1):b<0:=by
  rcases lt_or_le b 0 with k|k
  · exact k
  · have := Rat.mul_nonneg k (show 0 ≤ t1 - t2 by grind)
    grind
theorem mul_le {b s t:Rat} (hb:0≤b) (h:s≤t):b*s≤b*t:=by
  have:=Rat.mul_nonneg hb (show 0≤t - s by grind)
  grind
theorem mul_ge {b s t:Rat} (hb:b≤0) (h:s≤t):b*t≤b*s:=by
  have:=Rat.mul_nonneg (show 0≤ -b by grind) (show 0≤t - s by grind)
  grind
theorem mul_lt {b s t:Rat} (hb:0<b) (h:s<t):b*s<b*t:=by
  have:=Rat.mul_pos hb (show 0<t - s by grind)
  grind
theorem mul_gt {b s t:Rat} (hb:b<0) (h:s<t):b*t<b*s:=by
  have:=Rat.mul_pos (show 0< -b by grind) (show 0<t - s by grind)
  grind
theorem af_two {a b s t:Rat} (h1:a+b*s=0) (h2:a+b*t=0) (h:s≠t):b=0:=by
  have h3:b*(s - t)=0:=by grind
  rcases Rat.mul_eq_zero.1 h3 with k|k
  · exact k
  · exact absurd k (by grind)
theorem ends {p q u v t:Rat} (a:p<t∧t<q∨q<t∧t<p) (b:u<t∧t<v∨v<t∧t<u) (k1:¬(p<u∧u<q∨q<u∧u<p)) (k2:¬(p<v∧v<q∨q<v∧v<p)) (k3:¬(u<p∧p<v∨v<p∧p<u)) (k4:¬(u<q∧q<v∨v<q∧q<u)):p=u∨p=v∧q=u:=by
  rcases a with ⟨a1,a2⟩|⟨a1,a2⟩ <;> rcases b with ⟨b1,b2⟩|⟨b1,b2⟩
  · left;clear k2 k4;grind
  · right; constructor
    · clear k1 k4;grind
    · clear k2 k3;grind
  · right; constructor
    · clear k1 k4;grind
    · clear k2 k3;grind
  · left;clear k2 k4;grind
def nx (n i:Nat):Nat:=if i+1=n then 0 else i+1
def pv (n i:Nat):Nat:=if i=0 then n - 1 else i - 1
theorem nx_c (n i:Nat):i+1=n∧nx n i=0∨i+1≠n∧nx n i=i+1:=by
  unfold nx;by_cases h:i+1=n
  · exact .inl ⟨h,if_pos h⟩
  · exact .inr ⟨h,if_neg h⟩
theorem pv_c (n i:Nat):i=0∧pv n i=n - 1∨i≠0∧pv n i=i - 1:=by
  unfold pv;by_cases h:i=0
  · exact .inl ⟨h,if_pos h⟩
  · exact .inr ⟨h,if_neg h⟩
theorem nx_lt {n i:Nat} (h:i<n):nx n i<n:=by have:=nx_c n i;omega
theorem pv_lt {n i:Nat} (h:i<n):pv n i<n:=by have:=pv_c n i;omega
theorem nx_pv {n i:Nat} (h:i<n):nx n (pv n i)=i:=by have:=nx_c n (pv n i);have:=pv_c n i;omega
structure Pol where
  n:Nat
  X:Nat→Int
  Y:Nat→Int
namespace Pol
variable (c : Pol)
def x (i:Nat):Rat:=(c.X i:Rat)
def y (i:Nat):Rat:=(c.Y i:Rat)
def sl (i:Nat):Rat:=(c.x (nx c.n i) - c.x i) / (c.y (nx c.n i) - c.y i)
def co (i:Nat):Rat:=c.x i - c.y i*c.sl i
def xi (i:Nat) (t:Rat):Rat:=c.co i+c.sl i*t
def G (i j:Nat) (t:Rat):Rat:=(c.co j - c.co i)+(c.sl j - c.sl i)*t
theorem G_eq (i j:Nat) (t:Rat):c.G i j t=c.xi j t - c.xi i t:=by unfold G xi;grind
def cs (i:Nat) (t:Rat):Prop:=c.y i≤t∧t≤c.y (nx c.n i)∨c.y (nx c.n i)≤t∧t≤c.y i
def os (i:Nat) (t:Rat):Prop:=c.y i<t∧t<c.y (nx c.n i)∨c.y (nx c.n i)<t∧t<c.y i
theorem os_cs {c:Pol} {i:Nat} {t:Rat} (h:c.os i t):c.cs i t:=by unfold os at h;unfold cs;grind
def opp (u v:Rat):Prop:=u<0∧0<v∨0<u∧v<0
structure Ok:Prop where
  n3:3≤c.n
  inj:∀i j,i<c.n→j<c.n→c.y i=c.y j→i=j
  tch:∀i w,i<c.n→w<c.n→w≠i→w≠nx c.n i→c.os i (c.y w)→c.x w≠c.xi i (c.y w)
  crx:∀i j,i<c.n→j<c.n→j≠i→j≠nx c.n i→i≠nx c.n j→¬(opp (c.G i j (c.y j)) (c.G i j (c.y (nx c.n j)))∧opp (c.G i j (c.y i)) (c.G i j (c.y (nx c.n i))))
variable {c}
theorem Ok.ne (h:c.Ok) {i:Nat} (hi:i<c.n):c.y (nx c.n i)≠c.y i:=fun k=>by
  have h1:=h.inj _ _ (nx_lt hi) hi k
  have:=nx_c c.n i
  have:=h.n3
  omega
theorem xi_0 (c:Pol) (i:Nat):c.xi i (c.y i)=c.x i:=by unfold xi co;grind
theorem Ok.xi_1 (h:c.Ok) {i:Nat} (hi:i<c.n):c.xi i (c.y (nx c.n i))=c.x (nx c.n i):=by
  have h1:=h.ne hi
  have h2:c.sl i*(c.y (nx c.n i) - c.y i)=c.x (nx c.n i) - c.x i:=by
    unfold sl
    exact Rat.div_mul_cancel (by grind)
  unfold xi co;grind
theorem Ok.shared (h:c.Ok) {i j:Nat} (hi:i<c.n) (hj:j<c.n) (hij:j=nx c.n i∨i=nx c.n j):∃v,c.G i j v=0∧(v=c.y i∨v=c.y (nx c.n i))∧(v=c.y j∨v=c.y (nx c.n j)):=by
  rcases hij with k|k
  · refine ⟨c.y j, ?_, .inr (by rw [k]), .inl rfl⟩
    rw [G_eq,xi_0]
    have:=h.xi_1 hi
    rw [← k] at this;rw [this];grind
  · refine ⟨c.y i, ?_, .inl rfl, .inr (by rw [k])⟩
    rw [G_eq,xi_0]
    have:=h.xi_1 hj
    rw [← k] at this;rw [this];grind
theorem Ok.oc (h:c.Ok) {i j:Nat} (hi:i<c.n) (hj:j<c.n) (hne:j≠i) {t1 t2:Rat} (a1:c.cs i t1) (a2:c.cs i t2) (b1:c.cs j t1) (b2:c.cs j t2) (g1:c.G i j t1<0) (g2:0<c.G i j t2):False:=by
  have ht:t1≠t2:=fun k=>by subst k;grind
  by_cases hij:j=nx c.n i∨i=nx c.n j
  · obtain ⟨v, hv, hvi, hvj⟩ := h.shared hi hj hij
    have h1:=h.ne hi
    have h2:=h.ne hj
    have hv1:v≠t1:=fun k=>by rw [k] at hv;grind
    have hv2:v≠t2:=fun k=>by rw [k] at hv;grind
    unfold cs at a1 a2 b1 b2
    have hs:v<t1∧v<t2∨t1<v∧t2<v:=by grind
    unfold G at g1 g2 hv
    rcases lt_or_le t1 t2 with k|k
    · have hb := af_up g1 g2 k
      rcases hs with ⟨s1,s2⟩|⟨s1,s2⟩
      · have:=mul_lt hb s1;grind
      · have:=mul_lt hb s2;grind
    · have hb := af_dn g1 g2 (by grind)
      rcases hs with ⟨s1,s2⟩|⟨s1,s2⟩
      · have:=mul_gt hb s2;grind
      · have:=mul_gt hb s1;grind
  · refine h.crx i j hi hj hne (fun k => hij (.inl k)) (fun k => hij (.inr k)) ?_
    unfold cs at a1 a2 b1 b2
    unfold G at g1 g2
    unfold G opp
    rcases lt_or_le t1 t2 with k|k
    · have hb := af_up g1 g2 k
      constructor
      · rcases b1 with ⟨p, q⟩ | ⟨p, q⟩
        · left;have:=mul_le (Rat.le_of_lt hb) p;have:=mul_le (Rat.le_of_lt hb) (show t2≤c.y (nx c.n j) by grind);grind
        · right;have:=mul_le (Rat.le_of_lt hb) p;have:=mul_le (Rat.le_of_lt hb) (show t2≤c.y j by grind);grind
      · rcases a1 with ⟨p, q⟩ | ⟨p, q⟩
        · left;have:=mul_le (Rat.le_of_lt hb) p;have:=mul_le (Rat.le_of_lt hb) (show t2≤c.y (nx c.n i) by grind);grind
        · right;have:=mul_le (Rat.le_of_lt hb) p;have:=mul_le (Rat.le_of_lt hb) (show t2≤c.y i by grind);grind
    · have hb := af_dn g1 g2 (by grind)
      constructor
      · rcases b2 with ⟨p, q⟩ | ⟨p, q⟩
        · right;have:=mul_ge (Rat.le_of_lt hb) p;have:=mul_ge (Rat.le_of_lt hb) (show t1≤c.y (nx c.n j) by grind);grind
        · left;have:=mul_ge (Rat.le_of_lt hb) p;have:=mul_ge (Rat.le_of_lt hb) (show t1≤c.y j by grind);grind
      · rcases a2 with ⟨p, q⟩ | ⟨p, q⟩
        · right;have:=mul_ge (Rat.le_of_lt hb) p;have:=mul_ge (Rat.le_of_lt hb) (show t1≤c.y (nx c.n i) by grind);grind
        · left;have:=mul_ge (Rat.le_of_lt hb) p;have:=mul_ge (Rat.le_of_lt hb) (show t1≤c.y i by grind);grind
theorem Ok.nz (h:c.Ok) {i j:Nat} (hi:i<c.n) (hj:j<c.n) (hne:j≠i) {t:Rat} (a:c.os i t) (b:c.os j t):c.G i j t≠0:=fun g=>by
  have hii:=h.ne hi
  have hjj:=h.ne hj
  by_cases hb:c.sl j - c.sl i=0
  · have hall:∀s,c.xi j s=c.xi i s:=fun s=>by
      have:c.G i j s=0:=by unfold G at g ⊢;rw [hb] at g ⊢;grind
      rw [G_eq] at this;grind
    have tI:∀w,w<c.n→c.xi j (c.y w)=c.x w→¬c.os i (c.y w):=fun w hw e k=>by
      refine h.tch i w hi hw (fun q=> ?_) (fun q=> ?_) k (by rw [← hall,e])
      · subst q;unfold os at k;grind
      · subst q;unfold os at k;grind
    have tJ:∀w,w<c.n→c.xi i (c.y w)=c.x w→¬c.os j (c.y w):=fun w hw e k=>by
      refine h.tch j w hj hw (fun q=> ?_) (fun q=> ?_) k (by rw [hall,e])
      · subst q;unfold os at k;grind
      · subst q;unfold os at k;grind
    have k1:=tI _ hj (xi_0 c j)
    have k2:=tI _ (nx_lt hj) (h.xi_1 hj)
    have k3:=tJ _ hi (xi_0 c i)
    have k4:=tJ _ (nx_lt hi) (h.xi_1 hi)
    unfold os at a b k1 k2 k3 k4
    have hs:=ends a b k1 k2 k3 k4
    rcases hs with q|⟨q1,q2⟩
    · exact hne (h.inj _ _ hj hi q.symm)
    · have e1 := h.inj _ _ hi (nx_lt hj) q1
      have e2:=h.inj _ _ (nx_lt hi) hj q2
      have:=nx_c c.n i
      have:=nx_c c.n j
      have:=h.n3
      omega
  · by_cases hij : j = nx c.n i ∨ i = nx c.n j
    · obtain ⟨v, hv, hvi, hvj⟩ := h.shared hi hj hij
      refine hb (af_two hv g ?_)
      unfold os at a
      grind
    · refine h.crx i j hi hj hne (fun k => hij (.inl k)) (fun k => hij (.inr k)) ?_
      unfold os at a b
      unfold G at g
      unfold G opp
      rcases lt_or_le 0 (c.sl j - c.sl i) with k|k
      · constructor
        · rcases b with ⟨p, q⟩ | ⟨p, q⟩
          · left;have:=mul_lt k p;have:=mul_lt k q;grind
          · right;have:=mul_lt k p;have:=mul_lt k q;grind
        · rcases a with ⟨p, q⟩ | ⟨p, q⟩
          · left;have:=mul_lt k p;have:=mul_lt k q;grind
          · right;have:=mul_lt k p;have:=mul_lt k q;grind
      · have k2 : c.sl j - c.sl i < 0 := by grind
        constructor
        · rcases b with ⟨p, q⟩ | ⟨p, q⟩
          · right;have:=mul_gt k2 p;have:=mul_gt k2 q;grind
          · left;have:=mul_gt k2 p;have:=mul_gt k2 q;grind
        · rcases a with ⟨p, q⟩ | ⟨p, q⟩
          · right;have:=mul_gt k2 p;have:=mul_gt k2 q;grind
          · left;have:=mul_gt k2 p;have:=mul_gt k2 q;grind
theorem Ok.cst (h:c.Ok) {i j:Nat} (hi:i<c.n) (hj:j<c.n) (hne:j≠i) {t1 t2:Rat} (a1:c.cs i t1) (a2:c.cs i t2) (b1:c.cs j t1) (b2:c.cs j t2) (g1:c.xi j t1≠c.xi i t1) (g2:c.xi j t2≠c.xi i t2):c.xi j t1<c.xi i t1↔c.xi j t2<c.xi i t2:=by
  have k1:=h.oc hi hj hne a1 a2 b1 b2
  have k2:=h.oc hi hj hne a2 a1 b2 b1
  rw [G_eq,G_eq] at k1 k2
  constructor
  · intro k
    rcases lt_or_le (c.xi j t2) (c.xi i t2) with q|q
    · exact q
    · exact (k1 (by grind) (by grind)).elim
  · intro k
    rcases lt_or_le (c.xi j t1) (c.xi i t1) with q|q
    · exact q
    · exact (k2 (by grind) (by grind)).elim
variable (c)
def span (i:Nat) (k:Int):Prop:=c.Y i≤k∧k<c.Y (nx c.n i)∨c.Y (nx c.n i)≤k∧k<c.Y i
instance (i:Nat) (k:Int):Decidable (c.span i k):=inferInstanceAs (Decidable (_∨_))
def hf (k:Int):Rat:=(k:Rat)+1 / 2
variable {c}
theorem cle {a b:Int} (h:a≤b):(a:Rat)≤(b:Rat):=Rat.intCast_le_intCast.2 h
theorem clt {a b:Int} (h:a<b):(a:Rat)+1≤(b:Rat):=by
  have:=Rat.intCast_le_intCast.2 (show a+1≤b by omega)
  rw [Rat.intCast_add] at this
  exact this
theorem span_os {i:Nat} {k:Int} (h:c.span i k):c.os i (hf k):=by
  unfold span at h
  unfold os hf y
  rcases h with ⟨p,q⟩|⟨p,q⟩
  · have:=cle p;have:=clt q;left;grind
  · have:=cle p;have:=clt q;right;grind
theorem span_c0 {i:Nat} {k:Int} (h:c.span i k):c.cs i (k:Rat):=by
  unfold span at h
  unfold cs y
  rcases h with ⟨p,q⟩|⟨p,q⟩
  · have:=cle p;have:=clt q;left;grind
  · have:=cle p;have:=clt q;right;grind
theorem span_c1 {i:Nat} {k:Int} (h:c.span i k):c.cs i ((k+1:Int):Rat):=by
  unfold span at h
  unfold cs y
  rcases h with ⟨p,q⟩|⟨p,q⟩
  · have:=cle p;have:=cle (show k+1≤_ by exact q);have:=clt (show k<k+1 by omega);left;grind
  · have:=cle p;have:=cle (show k+1≤_ by exact q);have:=clt (show k<k+1 by omega);right;grind
end Pol
end Go.Proofs.YtjcpbhlijoigfaaGreat.Sw
namespace Go.Proofs.YtjcpbhlijoigfaaGreat.Sw
set_option linter.unusedVariables false
def pr (f:Nat→Int):Nat→Int
  |0=>1
  |m+1=>pr f m*f m
theorem pr_congr {f g:Nat→Int}:∀{m:Nat},(∀j,j<m→f j=g j)→pr f m=pr g m
  |0,_=>rfl
  |m+1,h=>by unfold pr;rw [pr_congr fun j hj=>h j (by omega),h m (by omega)]
theorem pr_one {f g:Nat→Int} {p:Nat}:∀{m:Nat},p<m→(∀j,j<m→j≠p→f j=g j)→pr f m*g p=pr g m*f p
  |0,hp,_=>by omega
  |m+1,hp,h=>by
    unfold pr
    by_cases e:p=m
    · subst e
      rw [pr_congr (f:=f) (g:=g) fun j hj=>h j (by omega) (by omega)]
      grind
    · have ih := pr_one (f := f) (g := g) (p := p) (m := m) (by omega) fun j hj hn => h j (by omega) hn
      rw [h m (by omega) (fun k=>e k.symm)]
      grind
theorem pr_two {f g:Nat→Int} {p q m:Nat} (hp:p<m) (hq:q<m) (hn:p≠q) (h:∀j,j<m→j≠p→j≠q→f j=g j):pr f m*(g p*g q)=pr g m*(f p*f q):=by
  have h1:=pr_one (f:=f) (g:=fun j=>if j=p then g p else f j) hp fun j hj k=>by rw [if_neg k]
  have h2:=pr_one (f:=fun j=>if j=p then g p else f j) (g:=g) hq fun j hj k=>by
    by_cases e:j=p
    · rw [if_pos e,e]
    · rw [if_neg e];exact h j hj e k
  rw [if_pos rfl] at h1
  rw [if_neg (fun k=>hn k.symm)] at h2
  generalize pr (fun j=>if j=p then g p else f j) m=z at h1 h2
  grind
def pm (z:Int):Prop:=z=1∨z= -1
theorem pm_mul {a b:Int} (h1:pm a) (h2:pm b):pm (a*b):=by
  unfold pm at *;rcases h1 with rfl|rfl <;> rcases h2 with rfl|rfl <;> decide
theorem pr_eq {f g:Nat→Int} {p q m:Nat} (hp:p<m) (hq:q<m) (hn:p≠q) (h:∀j,j<m→j≠p→j≠q→f j=g j) (e:f p*f q=g p*g q) (u:pm (g p*g q)):pr f m=pr g m:=by
  have:=pr_two hp hq hn h
  rw [e] at this
  rcases u with u|u <;> rw [u] at this <;> omega
theorem pr_neg {f g:Nat→Int} {p q m:Nat} (hp:p<m) (hq:q<m) (hn:p≠q) (h:∀j,j<m→j≠p→j≠q→f j=g j) (e:f p*f q= -(g p*g q)) (u:pm (g p*g q)):pr f m= - pr g m:=by
  have:=pr_two hp hq hn h
  rw [e] at this
  rcases u with u|u <;> rw [u] at this <;> omega
theorem pr_pm {f:Nat→Int}:∀{m:Nat},(∀j,j<m→pm (f j))→pm (pr f m)
  |0,_=> .inl rfl
  |m+1,h=>pm_mul (pr_pm fun j hj=>h j (by omega)) (h m (by omega))
def fl (b:Prop) [Decidable b]:Int:=if b then -1 else 1
theorem fl_pm (b:Prop) [Decidable b]:pm (fl b):=by unfold fl pm;split;exact .inr rfl;exact .inl rfl
theorem fl_yes {b:Prop} [Decidable b] (h:b):fl b= -1:=if_pos h
theorem fl_no {b:Prop} [Decidable b] (h:¬b):fl b=1:=if_neg h
theorem fl_iff {b d:Prop} [Decidable b] [Decidable d] (h:b↔d):fl b=fl d:=by
  by_cases k:b
  · rw [fl_yes k,fl_yes (h.1 k)]
  · rw [fl_no k,fl_no (fun q=>k (h.2 q))]
namespace Pol
variable {c : Pol}
variable (c) in
def lf (i:Nat) (k:Int) (j:Nat):Prop:=c.span j k∧c.xi j (hf k)<c.xi i (hf k)
instance (i:Nat) (k:Int) (j:Nat):Decidable (c.lf i k j):=inferInstanceAs (Decidable (_∧_))
variable (c) in
def tau (i:Nat) (k:Int):Int:=pr (fun j=>fl (c.lf i k j)) c.n
theorem tau_pm (i:Nat) (k:Int):pm (c.tau i k):=pr_pm fun j _=>fl_pm _
theorem lf_self (i:Nat) (k:Int):¬c.lf i k i:=fun h=>by have:=h.2;grind
variable (c) in
def inc (e w:Nat):Prop:=e=w∨nx c.n e=w
theorem Ok.yne (h:c.Ok) {i w:Nat} (hi:i<c.n) (hw:w<c.n) (hn:i≠w):c.Y i≠c.Y w:=fun k=>hn (h.inj i w hi hw (by unfold y;rw [k]))
theorem Ok.xw (h:c.Ok) {e w:Nat} (he:e<c.n) (k:c.inc e w):c.xi e (c.y w)=c.x w:=by
  rcases k with rfl|rfl
  · exact xi_0 c e
  · exact h.xi_1 he
theorem Ok.pass (h:c.Ok) {j w:Nat} (hj:j<c.n) (hw:w<c.n) (hn:¬c.inc j w) {k:Int} (hk:k=c.Y w∨k+1=c.Y w) (hs:c.span j k):c.os j (c.y w)∧c.xi j (c.y w)≠c.x w∧c.span j (c.Y w):=by
  have h1:=h.yne hj hw (fun e=>hn (.inl e))
  have h2:=h.yne (nx_lt hj) hw (fun e=>hn (.inr e))
  have hs2:c.span j (c.Y w):=by unfold span at hs ⊢;omega
  have h3:c.os j (c.y w):=by
    unfold span at hs2;unfold os y
    rcases hs2 with ⟨p,q⟩|⟨p,q⟩
    · left;exact ⟨Rat.intCast_lt_intCast.2 (by omega),Rat.intCast_lt_intCast.2 q⟩
    · right;exact ⟨Rat.intCast_lt_intCast.2 (by omega),Rat.intCast_lt_intCast.2 q⟩
  exact ⟨h3,fun e=>h.tch j w hj hw (fun e=>hn (.inl e.symm)) (fun e=>hn (.inr e.symm)) h3 e.symm,hs2⟩
theorem cs_at {j w:Nat} {k:Int} (hk:k=c.Y w∨k+1=c.Y w) (hs:c.span j k):c.cs j (c.y w):=by
  unfold y
  rcases hk with e|e
  · rw [← e];exact span_c0 hs
  · rw [← e];exact span_c1 hs
theorem Ok.lfA (h:c.Ok) {e j w:Nat} (he:e<c.n) (hj:j<c.n) (hw:w<c.n) (ke:c.inc e w) (kj:¬c.inc j w) {k:Int} (hk:k=c.Y w∨k+1=c.Y w) (hs:c.span e k):c.lf e k j↔c.span j (c.Y w)∧c.xi j (c.y w)<c.x w:=by
  have hne:j≠e:=fun q=>by subst q;exact kj ke
  have h1:=h.yne hj hw (fun q=>kj (.inl q))
  have h2:=h.yne (nx_lt hj) hw (fun q=>kj (.inr q))
  have hsp:c.span j k↔c.span j (c.Y w):=by unfold span;omega
  unfold lf
  rw [hsp]
  refine and_congr_right fun q=> ?_
  have q':=hsp.2 q
  obtain ⟨p1,p2,p3⟩:=h.pass hj hw kj hk q'
  have hx:=h.xw he ke
  rw [h.cst he hj hne (os_cs (span_os hs)) (cs_at hk hs) (os_cs (span_os q')) (os_cs p1) (fun z=>h.nz he hj hne (span_os hs) (span_os q') (by rw [G_eq];grind)) (by rw [hx];exact p2),hx]
theorem Ok.lfB (h:c.Ok) {i e w:Nat} (hi:i<c.n) (he:e<c.n) (hw:w<c.n) (ke:c.inc e w) (ki:¬c.inc i w) {k:Int} (hk:k=c.Y w∨k+1=c.Y w) (hs:c.span i k):c.lf i k e↔c.span e k∧c.x w<c.xi i (c.y w):=by
  have hne:e≠i:=fun q=>by subst q;exact ki ke
  unfold lf
  refine and_congr_right fun q=> ?_
  obtain ⟨p1,p2,p3⟩:=h.pass hi hw ki hk hs
  have hx:=h.xw he ke
  rw [h.cst hi he hne (os_cs (span_os hs)) (os_cs p1) (os_cs (span_os q)) (cs_at hk q) (fun z=>h.nz hi he hne (span_os hs) (span_os q) (by rw [G_eq];grind)) (by rw [hx];exact fun z=>p2 z.symm),hx]
theorem Ok.same (h:c.Ok) {i j:Nat} (hi:i<c.n) (hj:j<c.n) {k:Int} (h1:c.span i k) (h2:c.span i (k+1)) (y1:c.Y j≠k+1) (y2:c.Y (nx c.n j)≠k+1):c.lf i k j↔c.lf i (k+1) j:=by
  have hsp:c.span j k↔c.span j (k+1):=by unfold span;omega
  by_cases e:j=i
  · subst e;exact ⟨fun z=>(lf_self _ _ z).elim,fun z=>(lf_self _ _ z).elim⟩
  unfold lf
  rw [hsp]
  refine and_congr_right fun q=> ?_
  have q':=hsp.2 q
  exact h.cst hi hj e (os_cs (span_os h1)) (os_cs (span_os h2)) (os_cs (span_os q')) (os_cs (span_os q)) (fun z=>h.nz hi hj e (span_os h1) (span_os q') (by rw [G_eq];grind)) (fun z=>h.nz hi hj e (span_os h2) (span_os q) (by rw [G_eq];grind))
theorem Ok.step (h:c.Ok) {i:Nat} (hi:i<c.n) {k:Int} (h1:c.span i k) (h2:c.span i (k+1)):c.tau i k=c.tau i (k+1):=by
  unfold tau
  by_cases ex:∃w,w<c.n∧c.Y w=k+1
  · obtain ⟨w, hw, hy⟩ := ex
    have hp:=pv_lt hw
    have hnp:=nx_pv hw
    have h3:=h.n3
    have hpw:pv c.n w≠w:=by have:=pv_c c.n w;omega
    have ki:¬c.inc i w:=by
      rintro (q|q)
      · subst q;unfold span at h1 h2;omega
      · rw [← q] at hy;unfold span at h1 h2;omega
    have hB:∀e,e<c.n→c.inc e w→fl (c.lf i k e)*fl (c.lf i (k+1) e)=fl (c.x w<c.xi i (c.y w)):=fun e he ke=>by
      rw [fl_iff (h.lfB hi he hw ke ki (.inr hy.symm) h1),fl_iff (h.lfB hi he hw ke ki (.inl hy.symm) h2)]
      have hsp:c.span e k↔¬c.span e (k+1):=by
        have hne:=h.ne he
        have hne2:c.Y (nx c.n e)≠c.Y e:=fun q=>hne (by unfold y;rw [q])
        rcases ke with q|q
        · subst q;unfold span;omega
        · rw [← q] at hy;unfold span;omega
      by_cases b:c.x w<c.xi i (c.y w)
      · rw [fl_yes b]
        by_cases s:c.span e (k+1)
        · rw [fl_no (fun z=>hsp.1 z.1 s),fl_yes ⟨s,b⟩];rfl
        · rw [fl_yes ⟨hsp.2 s,b⟩,fl_no (fun z=>s z.1)];rfl
      · rw [fl_no b,fl_no (fun z=>b z.2),fl_no (fun z=>b z.2)];rfl
    refine pr_eq hp hw hpw (fun j hj j1 j2=> ?_) ?_ (pm_mul (fl_pm _) (fl_pm _))
    · refine fl_iff (h.same hi hj h1 h2 (fun q => ?_) (fun q => ?_))
      · exact h.yne hj hw j2 (by omega)
      · refine h.yne (nx_lt hj) hw (fun z => j1 ?_) (by omega)
        have:=nx_c c.n j;have:=pv_c c.n w;omega
    · have e1 := hB _ hp (.inr hnp)
      have e2:=hB _ hw (.inl rfl)
      have u1:=fl_pm (c.lf i k (pv c.n w))
      have u2:=fl_pm (c.lf i k w)
      have u3:=fl_pm (c.lf i (k+1) (pv c.n w))
      have u4:=fl_pm (c.lf i (k+1) w)
      have u5:=fl_pm (c.x w<c.xi i (c.y w))
      generalize fl (c.lf i k (pv c.n w))=a1 at*
      generalize fl (c.lf i k w)=a2 at*
      generalize fl (c.lf i (k+1) (pv c.n w))=a3 at*
      generalize fl (c.lf i (k+1) w)=a4 at*
      generalize fl (c.x w<c.xi i (c.y w))=a5 at*
      unfold pm at u1 u2 u3 u4 u5
      rcases u1 with rfl|rfl <;> rcases u2 with rfl|rfl <;> rcases u3 with rfl|rfl <;> rcases u4 with rfl|rfl <;> omega
  · refine pr_congr fun j hj=>fl_iff (h.same hi hj h1 h2 (fun q=>ex ⟨j,hj,q⟩) (fun q=>ex ⟨_,nx_lt hj,q⟩))
end Pol
end Go.Proofs.YtjcpbhlijoigfaaGreat.Sw
namespace Go.Proofs.YtjcpbhlijoigfaaGreat.Sw
set_option linter.unusedVariables false
namespace Pol
variable {c : Pol}
variable (c) in
def dir (i:Nat):Int:=if c.Y i<c.Y (nx c.n i) then 1 else -1
theorem dir_pm (i:Nat):pm (c.dir i):=by unfold dir pm;split;exact .inl rfl;exact .inr rfl
theorem dir_up {i:Nat} (h:c.Y i<c.Y (nx c.n i)):c.dir i=1:=if_pos h
theorem dir_dn {i:Nat} (h:¬c.Y i<c.Y (nx c.n i)):c.dir i= -1:=if_neg h
def kb (u o:Int):Int:=if o<u then u - 1 else u
theorem kb_c (u o:Int):o<u∧kb u o=u - 1∨u≤o∧kb u o=u:=by
  unfold kb;by_cases h:o<u
  · exact .inl ⟨h,if_pos h⟩
  · exact .inr ⟨by omega,if_neg h⟩
theorem Ok.vert (h:c.Ok) {w:Nat} (hw:w<c.n):c.dir (pv c.n w)*c.tau (pv c.n w) (kb (c.Y w) (c.Y (pv c.n w)))=c.dir w*c.tau w (kb (c.Y w) (c.Y (nx c.n w))):=by
  have h3:=h.n3
  have hp:=pv_lt hw
  have hq:=nx_lt hw
  have hnp:=nx_pv hw
  have pc:=pv_c c.n w
  have nc:=nx_c c.n w
  have hpw:pv c.n w≠w:=by omega
  have y1:=h.yne hp hw hpw
  have y2:=h.yne hq hw (by omega)
  have ip:c.inc (pv c.n w) w:= .inr hnp
  have iq:c.inc w w:= .inl rfl
  have k1:=kb_c (c.Y w) (c.Y (pv c.n w))
  have k2:=kb_c (c.Y w) (c.Y (nx c.n w))
  have s1:c.span (pv c.n w) (kb (c.Y w) (c.Y (pv c.n w))):=by unfold span;rw [hnp];omega
  have s2:c.span w (kb (c.Y w) (c.Y (nx c.n w))):=by unfold span;omega
  have e1:kb (c.Y w) (c.Y (pv c.n w))=c.Y w∨kb (c.Y w) (c.Y (pv c.n w))+1=c.Y w:=by omega
  have e2:kb (c.Y w) (c.Y (nx c.n w))=c.Y w∨kb (c.Y w) (c.Y (nx c.n w))+1=c.Y w:=by omega
  have hoth:∀j,j<c.n→j≠pv c.n w→j≠w→fl (c.lf (pv c.n w) (kb (c.Y w) (c.Y (pv c.n w))) j)=fl (c.lf w (kb (c.Y w) (c.Y (nx c.n w))) j):=fun j hj j1 j2=>by
    have kj:¬c.inc j w:=by
      rintro (q|q)
      · exact j2 q
      · exact j1 (by have:=nx_c c.n j;omega)
    rw [fl_iff (h.lfA hp hj hw ip kj e1 s1),fl_iff (h.lfA hw hj hw iq kj e2 s2)]
  have dp:c.dir (pv c.n w)=if c.Y (pv c.n w)<c.Y w then 1 else -1:=by unfold dir;rw [hnp]
  by_cases same:kb (c.Y w) (c.Y (pv c.n w))=kb (c.Y w) (c.Y (nx c.n w))
  · have hd:c.dir (pv c.n w)= - c.dir w:=by
      rw [dp];unfold dir
      by_cases z:c.Y (pv c.n w)<c.Y w
      · rw [if_pos z,if_neg (by omega)];rfl
      · rw [if_neg z,if_pos (by omega)]
    rw [← same] at s2 hoth ⊢
    generalize kb (c.Y w) (c.Y (pv c.n w))=k at*
    have hnz:=h.nz hp hw (fun z=>hpw z.symm) (span_os s1) (span_os s2)
    rw [G_eq] at hnz
    have ht:c.tau (pv c.n w) k= - c.tau w k:=by
      refine pr_neg hp hw hpw hoth ?_ (pm_mul (fl_pm _) (fl_pm _))
      rw [fl_no (lf_self _ _),fl_no (lf_self _ _)]
      by_cases z:c.xi w (hf k)<c.xi (pv c.n w) (hf k)
      · rw [fl_yes (b:=c.lf (pv c.n w) k w) ⟨s2,z⟩,fl_no (b:=c.lf w k (pv c.n w)) (fun q=>by have:=q.2;grind)];rfl
      · rw [fl_no (b:=c.lf (pv c.n w) k w) (fun q=>z q.2),fl_yes (b:=c.lf w k (pv c.n w)) ⟨s1,by grind⟩];rfl
    rw [hd,ht];grind
  · have hd:c.dir (pv c.n w)=c.dir w:=by
      rw [dp];unfold dir
      by_cases z:c.Y (pv c.n w)<c.Y w
      · rw [if_pos z,if_pos (by omega)]
      · rw [if_neg z,if_neg (by omega)]
    have ht:c.tau (pv c.n w) (kb (c.Y w) (c.Y (pv c.n w)))=c.tau w (kb (c.Y w) (c.Y (nx c.n w))):=by
      refine pr_eq hp hw hpw hoth ?_ (pm_mul (fl_pm _) (fl_pm _))
      rw [fl_no (lf_self _ _),fl_no (lf_self _ _),fl_no (fun q=> ?_),fl_no (fun q=> ?_)]
      · have:=q.1;unfold span at this;rw [hnp] at this;omega
      · have:=q.1;unfold span at this;omega
    rw [hd,ht]
variable (c) in
def lo (i:Nat):Int:=min (c.Y i) (c.Y (nx c.n i))
theorem span_lo {i:Nat} {k:Int} (h:c.span i k):c.lo i≤k∧∀k',c.lo i≤k'→k'≤k→c.span i k':=by
  unfold span lo at*
  exact ⟨by omega,fun k' _ _=>by omega⟩
theorem Ok.tlo (h:c.Ok) {i:Nat} (hi:i<c.n):∀m:Nat,c.span i (c.lo i+m)→c.tau i (c.lo i+m)=c.tau i (c.lo i)
  |0,_=>by rw [show c.lo i+((0:Nat):Int)=c.lo i by omega]
  |m+1,hs=>by
    have h1:=(span_lo hs).2 (c.lo i+(m:Nat)) (by omega) (by omega)
    have e:c.lo i+((m+1:Nat):Int)=c.lo i+(m:Nat)+1:=by omega
    rw [e] at hs ⊢
    rw [← h.step hi h1 hs]
    exact h.tlo hi m h1
theorem Ok.tk (h:c.Ok) {i:Nat} (hi:i<c.n) {k:Int} (hs:c.span i k):c.tau i k=c.tau i (c.lo i):=by
  have h1:=(span_lo hs).1
  have e:k=c.lo i+((k - c.lo i).toNat:Nat):=by omega
  rw [e] at hs ⊢
  exact h.tlo hi _ hs
theorem Ok.sig (h:c.Ok):∀i,i<c.n→c.dir i*c.tau i (c.lo i)=c.dir 0*c.tau 0 (c.lo 0)
  |0,_=>rfl
  |i+1,hi=>by
    rw [← h.sig i (by omega)]
    have pc:=pv_c c.n (i+1)
    have e:pv c.n (i+1)=i:=by omega
    have hv:=h.vert hi
    have hnp:=nx_pv hi
    rw [e] at hv hnp
    have h3:=h.n3
    have y1:=h.yne (show i<c.n by omega) hi (by omega)
    have nc:=nx_c c.n (i+1)
    have y2:=h.yne (nx_lt hi) hi (by omega)
    have k1:=kb_c (c.Y (i+1)) (c.Y i)
    have k2:=kb_c (c.Y (i+1)) (c.Y (nx c.n (i+1)))
    rw [← h.tk (show i<c.n by omega) (k:=kb (c.Y (i+1)) (c.Y i)) (by unfold span;rw [hnp];omega),←h.tk hi (k:=kb (c.Y (i+1)) (c.Y (nx c.n (i+1)))) (by unfold span;omega)]
    exact hv.symm
theorem Ok.alt (h:c.Ok):∃s:Int,pm s∧∀i k,i<c.n→c.span i k→c.dir i=s*c.tau i k:=by
  refine ⟨c.dir 0*c.tau 0 (c.lo 0),pm_mul (dir_pm _) (tau_pm _ _),fun i k hi hs=> ?_⟩
  rw [← h.sig i hi,h.tk hi hs]
  rcases tau_pm (c:=c) i (c.lo i) with e|e <;> rw [e] <;> omega
end Pol
section
variable (x : Nat → Rat)
def rk (L:List Nat) (j:Nat):Int:=(L.map fun i=>if x i<x j then (-1:Int) else 1).foldr (· * ·) 1
theorem rk_cons (a:Nat) (L:List Nat) (j:Nat):rk x (a :: L) j=(if x a<x j then -1 else 1)*rk x L j:=rfl
def W (R:List Nat) (U:Nat→Bool):List Nat→Int
  |[]=>0
  |a :: L=>(if U a then rk x R a else 0)+W R U L
def T (R:List Nat):List Nat→Rat
  |[]=>0
  |a :: L=>(rk x R a:Rat)*x a+T R L
def Srt (L:List Nat):Prop:=L.Pairwise fun a b=>x a<x b
variable {x}
theorem rk_head {a:Nat} {L:List Nat} (h:Srt x (a :: L)):rk x (a :: L) a=1:=by
  have h1:∀M:List Nat,(∀b∈M,¬x b<x a)→rk x M a=1:=fun M=>by
    induction M with
    |nil=>intro _;rfl
    |cons b M ih=>intro k;rw [rk_cons,if_neg (k b (List.mem_cons_self ..)),ih fun d hd=>k d (List.mem_cons_of_mem _ hd)];rfl
  refine h1 _ fun b hb=> ?_
  rcases List.mem_cons.1 hb with rfl|hb
  · grind
  · have:=(List.pairwise_cons.1 h).1 b hb;grind
theorem W_tail {a:Nat} {L:List Nat} {U:Nat→Bool}:∀{M:List Nat},(∀b∈M,x a<x b)→W x (a :: L) U M= - W x L U M
  |[],_=>rfl
  |b :: M,h=>by
    unfold W
    rw [W_tail (fun d hd=>h d (List.mem_cons_of_mem _ hd)),rk_cons,if_pos (h b (List.mem_cons_self ..))]
    split <;> omega
theorem T_tail {a:Nat} {L:List Nat}:∀{M:List Nat},(∀b∈M,x a<x b)→T x (a :: L) M= - T x L M
  |[],_=>by unfold T;grind
  |b :: M,h=>by
    unfold T
    rw [T_tail (fun d hd=>h d (List.mem_cons_of_mem _ hd)),rk_cons,if_pos (h b (List.mem_cons_self ..)),Rat.intCast_mul]
    grind
theorem W_cons {a:Nat} {L:List Nat} {U:Nat→Bool} (h:Srt x (a :: L)):W x (a :: L) U (a :: L)=(if U a then 1 else 0) - W x L U L:=by
  show (if U a then rk x (a :: L) a else 0)+W x (a :: L) U L=_
  rw [rk_head h,W_tail (List.pairwise_cons.1 h).1];split <;> omega
theorem T_cons {a:Nat} {L:List Nat} (h:Srt x (a :: L)):T x (a :: L) (a :: L)=x a - T x L L:=by
  show (rk x (a :: L) a:Rat)*x a+T x (a :: L) L=_
  rw [rk_head h,T_tail (List.pairwise_cons.1 h).1];grind
theorem W_all {U:Nat→Bool}:∀{L:List Nat},Srt x L→(∀a∈L,U a=true)→W x L U L=(L.length:Int)%2
  |[],_,_=>rfl
  |a :: L,h,u=>by
    have ih:=W_all (List.pairwise_cons.1 h).2 fun b hb=>u b (List.mem_cons_of_mem _ hb)
    rw [W_cons h,ih,if_pos (u a (List.mem_cons_self ..)),List.length_cons];omega
theorem T_sg:∀{L:List Nat},Srt x L→(L.length%2=0→T x L L≤0∧(L≠[]→T x L L<0))∧(L.length%2=1→∀a∈L.head?,x a≤T x L L)
  |[],_=>⟨fun _=>⟨by unfold T;grind,fun k=>absurd rfl k⟩,fun k=>by cases k⟩
  |a :: L,h=>by
    have hp:=List.pairwise_cons.1 h
    obtain ⟨i1,i2⟩:=T_sg hp.2
    rw [T_cons h,List.length_cons]
    refine ⟨fun k=> ?_,fun k b hb=> ?_⟩
    · have k2 : L.length % 2 = 1 := by omega
      cases hL:L with
      |nil=>rw [hL] at k2;cases k2
      |cons b M=>
        have h1:=i2 k2 b (by rw [hL];rfl)
        have h2:=hp.1 b (by rw [hL];exact List.mem_cons_self ..)
        rw [hL] at h1
        exact ⟨by grind,fun _=>by grind⟩
    · have h1 := (i1 (by omega)).1
      have:b=a:=by simpa using hb.symm
      subst this
      grind
end
end Go.Proofs.YtjcpbhlijoigfaaGreat.Sw
namespace Go.Proofs.YtjcpbhlijoigfaaGreat.Sw
set_option linter.unusedVariables false
section
variable {x : Nat → Rat}
theorem rk_app (A B:List Nat) (j:Nat):rk x (A++B) j=rk x A j*rk x B j:=by
  induction A with
  |nil=>show _=1*_;rw [Int.one_mul];rfl
  |cons a A ih=>rw [List.cons_append,rk_cons,rk_cons,ih,Int.mul_assoc]
theorem rk_perm {A B:List Nat} (h:A.Perm B) (j:Nat):rk x A j=rk x B j:=by
  induction h with
  |nil=>rfl
  |cons a _ ih=>rw [rk_cons,rk_cons,ih]
  |swap a b l=>rw [rk_cons,rk_cons,rk_cons,rk_cons];grind
  |trans _ _ h1 h2=>rw [h1,h2]
theorem Wc (R:List Nat) (U:Nat→Bool) (a:Nat) (A:List Nat):W x R U (a :: A)=(if U a then rk x R a else 0)+W x R U A:=rfl
theorem Tc (R:List Nat) (a:Nat) (A:List Nat):T x R (a :: A)=(rk x R a:Rat)*x a+T x R A:=rfl
theorem W_app (R:List Nat) (U:Nat→Bool) (A B:List Nat):W x R U (A++B)=W x R U A+W x R U B:=by
  induction A with
  |nil=>show _=0+_;rw [Int.zero_add];rfl
  |cons a A ih=>rw [List.cons_append,Wc,Wc,ih,Int.add_assoc]
theorem W_perm {R:List Nat} {U:Nat→Bool} {A B:List Nat} (h:A.Perm B):W x R U A=W x R U B:=by
  induction h with
  |nil=>rfl
  |cons a _ ih=>rw [Wc,Wc,ih]
  |swap a b l=>rw [Wc,Wc,Wc,Wc];omega
  |trans _ _ h1 h2=>rw [h1,h2]
theorem W_R {R R':List Nat} {U:Nat→Bool} (h:R.Perm R'):∀A:List Nat,W x R U A=W x R' U A
  |[]=>rfl
  |a :: A=>by rw [Wc,Wc,W_R h A,rk_perm h]
theorem T_app (R:List Nat) (A B:List Nat):T x R (A++B)=T x R A+T x R B:=by
  induction A with
  |nil=>show _=0+_;rw [Rat.zero_add];rfl
  |cons a A ih=>rw [List.cons_append,Tc,Tc,ih,Rat.add_assoc]
theorem T_perm {R:List Nat} {A B:List Nat} (h:A.Perm B):T x R A=T x R B:=by
  induction h with
  |nil=>rfl
  |cons a _ ih=>rw [Tc,Tc,ih]
  |swap a b l=>rw [Tc,Tc,Tc,Tc];grind
  |trans _ _ h1 h2=>rw [h1,h2]
theorem T_R {R R':List Nat} (h:R.Perm R'):∀A:List Nat,T x R A=T x R' A
  |[]=>rfl
  |a :: A=>by rw [Tc,Tc,T_R h A,rk_perm h]
theorem sorted {L:List Nat} (hn:L.Nodup) (hi:∀a∈L,∀b∈L,a≠b→x a≠x b):∃M,M.Perm L∧Srt x M:=by
  refine ⟨L.mergeSort (fun a b=>decide (x a≤x b)),List.mergeSort_perm _ _,?_⟩
  have hp:=List.mergeSort_perm L (fun a b=>decide (x a≤x b))
  have h1:=List.pairwise_mergeSort (le:=fun a b=>decide (x a≤x b)) (fun a b d p q=>by simp only [decide_eq_true_eq] at *;grind) (fun a b=>by simp only [Bool.or_eq_true,decide_eq_true_eq];grind) L
  have h2:(L.mergeSort (fun a b=>decide (x a≤x b))).Nodup:=hp.nodup_iff.2 hn
  have h3:=h1.and h2
  refine List.Pairwise.imp_of_mem (fun {a b} ha hb hh=> ?_) h3
  have p:=hh.1
  simp only [decide_eq_true_eq] at p
  have:=hi a (hp.mem_iff.1 ha) b (hp.mem_iff.1 hb) hh.2
  grind
end
def su (f:Nat→Int):Nat→Int
  |0=>0
  |m+1=>su f m+f m
def sq (f:Nat→Rat):Nat→Rat
  |0=>0
  |m+1=>sq f m+f m
theorem su_s (f:Nat→Int) (m:Nat):su f (m+1)=su f m+f m:=rfl
theorem sq_s (f:Nat→Rat) (m:Nat):sq f (m+1)=sq f m+f m:=rfl
theorem su_congr {f g:Nat→Int}:∀{m:Nat},(∀j,j<m→f j=g j)→su f m=su g m
  |0,_=>rfl
  |m+1,h=>by unfold su;rw [su_congr fun j hj=>h j (by omega),h m (by omega)]
theorem sq_congr {f g:Nat→Rat}:∀{m:Nat},(∀j,j<m→f j=g j)→sq f m=sq g m
  |0,_=>rfl
  |m+1,h=>by unfold sq;rw [sq_congr fun j hj=>h j (by omega),h m (by omega)]
theorem su_mul (s:Int) (f:Nat→Int):∀m,su (fun j=>s*f j) m=s*su f m
  |0=>by unfold su;omega
  |m+1=>by unfold su;rw [su_mul s f m,Int.mul_add]
theorem sq_mul (s:Rat) (f:Nat→Rat):∀m,sq (fun j=>s*f j) m=s*sq f m
  |0=>by unfold sq;grind
  |m+1=>by unfold sq;rw [sq_mul s f m];grind
theorem sq_add (f g:Nat→Rat):∀m,sq (fun j=>f j+g j) m=sq f m+sq g m
  |0=>by unfold sq;grind
  |m+1=>by unfold sq;rw [sq_add f g m];grind
theorem sq_zero:∀m,sq (fun _=>0) m=0
  |0=>rfl
  |m+1=>by unfold sq;rw [sq_zero m];grind
theorem sq_ex (f:Nat→Nat→Rat) (n:Nat):∀m,sq (fun i=>sq (fun j=>f i j) n) m=sq (fun j=>sq (fun i=>f i j) m) n
  |0=>(sq_zero n).symm
  |m+1=>by
    show sq _ m+sq _ n=_
    rw [sq_ex f n m,←sq_add];rfl
theorem sq_le {f:Nat→Rat}:∀{m:Nat},(∀j,j<m→f j≤0)→sq f m≤0
  |0,_=>by unfold sq;grind
  |m+1,h=>by
    have:=sq_le (f:=f) (m:=m) fun j hj=>h j (by omega)
    have:=h m (by omega)
    unfold sq;grind
theorem sq_lt {f:Nat→Rat} {i:Nat}:∀{m:Nat},(∀j,j<m→f j≤0)→i<m→f i<0→sq f m<0
  |0,_,hi,_=>by omega
  |m+1,h,hi,k=>by
    have h1:=h m (by omega)
    have h2:=sq_le (f:=f) (m:=m) fun j hj=>h j (by omega)
    unfold sq
    by_cases e:i=m
    · subst e;grind
    · have := sq_lt (f := f) (i := i) (m := m) (fun j hj => h j (by omega)) (by omega) k
      grind
namespace Pol
variable {c : Pol}
variable (c) in
def S (k:Int):List Nat:=(List.range c.n).filter fun i=>decide (c.span i k)
variable (c) in
def xk (k:Int) (i:Nat):Rat:=c.xi i (hf k)
theorem mem_S {i:Nat} {k:Int}:i∈c.S k↔i<c.n∧c.span i k:=by unfold S;simp
theorem rk_S (k:Int) (i:Nat):rk (c.xk k) (c.S k) i=c.tau i k:=by
  have:∀m,rk (c.xk k) ((List.range m).filter fun i=>decide (c.span i k)) i=pr (fun j=>fl (c.lf i k j)) m:=fun m=>by
    induction m with
    |zero=>rfl
    |succ m ih=>
      rw [List.range_succ,List.filter_append,rk_app,ih]
      rw [show pr (fun j=>fl (c.lf i k j)) (m+1)=pr (fun j=>fl (c.lf i k j)) m*fl (c.lf i k m) from rfl]
      by_cases s:c.span m k
      · rw [List.filter_cons_of_pos (by simpa using s)]
        show _*((if c.xi m (hf k)<c.xi i (hf k) then (-1:Int) else 1)*1)=_
        rw [Int.mul_one]
        by_cases z:c.xi m (hf k)<c.xi i (hf k)
        · rw [if_pos z,fl_yes ⟨s,z⟩]
        · rw [if_neg z,fl_no (fun q=>z q.2)]
      · rw [List.filter_cons_of_neg (by simpa using s),fl_no (fun q=>s q.1)];rfl
  exact this c.n
theorem W_S (k:Int) (R:List Nat) (U:Nat→Bool):W (c.xk k) R U (c.S k)=su (fun j=>if c.span j k then (if U j then rk (c.xk k) R j else 0) else 0) c.n:=by
  have:∀m,W (c.xk k) R U ((List.range m).filter fun i=>decide (c.span i k))=su (fun j=>if c.span j k then (if U j then rk (c.xk k) R j else 0) else 0) m:=fun m=>by
    induction m with
    |zero=>rfl
    |succ m ih=>
      rw [List.range_succ,List.filter_append,W_app,ih]
      rw [su_s]
      by_cases s:c.span m k
      · rw [List.filter_cons_of_pos (by simpa using s), if_pos s]
        show _+(_+0)=_
        rw [Int.add_zero]
      · rw [List.filter_cons_of_neg (by simpa using s),if_neg s];rfl
  exact this c.n
theorem T_S (k:Int) (R:List Nat):T (c.xk k) R (c.S k)=sq (fun j=>if c.span j k then (rk (c.xk k) R j:Rat)*c.xk k j else 0) c.n:=by
  have:∀m,T (c.xk k) R ((List.range m).filter fun i=>decide (c.span i k))=sq (fun j=>if c.span j k then (rk (c.xk k) R j:Rat)*c.xk k j else 0) m:=fun m=>by
    induction m with
    |zero=>rfl
    |succ m ih=>
      rw [List.range_succ,List.filter_append,T_app,ih]
      rw [sq_s]
      by_cases s:c.span m k
      · rw [List.filter_cons_of_pos (by simpa using s), if_pos s]
        show _+(_+0)=_
        rw [Rat.add_zero]
      · rw [List.filter_cons_of_neg (by simpa using s),if_neg s];rfl
  exact this c.n
theorem Ok.srt (h:c.Ok) (k:Int):∃M,M.Perm (c.S k)∧Srt (c.xk k) M:=by
  refine sorted (List.nodup_range.filter _) fun a ha b hb hn e=> ?_
  obtain ⟨a1,a2⟩:=mem_S.1 ha
  obtain ⟨b1,b2⟩:=mem_S.1 hb
  refine h.nz a1 b1 (fun z=>hn z.symm) (span_os a2) (span_os b2) ?_
  unfold xk at e
  rw [G_eq];grind
theorem ev (j:Nat) (k:Int):(if c.span j k then c.dir j else 0)=(if c.Y j≤k then (1:Int) else 0) - (if c.Y (nx c.n j)≤k then 1 else 0):=by
  by_cases z:c.span j k
  · rw [if_pos z]
    unfold span at z
    by_cases u:c.Y j<c.Y (nx c.n j)
    · rw [dir_up u,if_pos (by omega),if_neg (by omega)];rfl
    · rw [dir_dn u,if_neg (by omega),if_pos (by omega)];rfl
  · rw [if_neg z]
    unfold span at z
    split <;> split <;> omega
theorem Ok.even (h:c.Ok) (k:Int):(c.S k).length%2=0:=by
  obtain ⟨s,hs,ha⟩:=h.alt
  obtain ⟨M,hM,hS⟩:=h.srt k
  have h3:=h.n3
  have h1:∀m,m<c.n→su (fun j=>if c.span j k then c.dir j else 0) m=(if c.Y 0≤k then 1 else 0) - (if c.Y m≤k then 1 else 0):=fun m=>by
    induction m with
    |zero=>intro _;unfold su;omega
    |succ m ih=>
      intro hm
      rw [su_s]
      rw [ih (by omega)]
      have e:nx c.n m=m+1:=by have:=nx_c c.n m;omega
      rw [ev,e];omega
  have h2:su (fun j=>if c.span j k then c.dir j else 0) c.n=0:=by
    have e:c.n=(c.n - 1)+1:=by omega
    have e2:nx c.n (c.n - 1)=0:=by have:=nx_c c.n (c.n - 1);omega
    rw [e,su_s]
    rw [h1 _ (by omega),ev,e2];omega
  have e:su (fun j=>if c.span j k then c.dir j else 0) c.n=s*W (c.xk k) (c.S k) (fun j=>true) (c.S k):=by
    rw [W_S,←su_mul]
    refine su_congr fun j hj=> ?_
    by_cases z:c.span j k
    · rw [if_pos z,if_pos z,rk_S,ha j k hj z];rfl
    · rw [if_neg z,if_neg z];omega
  rw [h2,W_perm hM.symm,W_R hM.symm,W_all hS fun _ _=>rfl,hM.length_eq] at e
  rcases hs with rfl|rfl <;> omega
variable (c) in
def pl (k:Int):Rat:=sq (fun j=>if c.span j k then (c.dir j:Rat)*c.xi j (hf k) else 0) c.n
theorem Ok.pl_sg (h:c.Ok):∃s:Rat,(s=1∨s= -1)∧∀k,s*c.pl k≤0∧(∀i,i<c.n→c.span i k→s*c.pl k<0):=by
  obtain ⟨s,hs,ha⟩:=h.alt
  refine ⟨(s:Rat),by rcases hs with rfl|rfl;exact .inl (by decide +kernel);exact .inr (by decide +kernel),fun k=> ?_⟩
  obtain ⟨M,hM,hS⟩:=h.srt k
  have e:(s:Rat)*c.pl k=T (c.xk k) M M:=by
    rw [T_perm hM,T_R hM,T_S]
    unfold pl
    rw [← sq_mul]
    refine sq_congr fun j hj=> ?_
    by_cases z:c.span j k
    · rw [if_pos z, if_pos z, rk_S, ha j k hj z, Rat.intCast_mul]
      have:(s:Rat)*(s:Rat)=1:=by rcases hs with rfl|rfl <;> decide +kernel
      unfold xk
      grind
    · rw [if_neg z,if_neg z];grind
  have ht:=(T_sg hS).1 (by rw [hM.length_eq];exact h.even k)
  rw [e]
  exact ⟨ht.1,fun i hi z=>ht.2 fun q=>by have:=hM.mem_iff.2 (mem_S.2 ⟨hi,z⟩);rw [q] at this;cases this⟩
variable (c) in
def F (i:Nat) (t:Rat):Rat:=c.co i*t+c.sl i*(t*t) / 2
theorem F_mid (i:Nat) (k:Int):c.xi i (hf k)=c.F i ((k+1:Int):Rat) - c.F i (k:Rat):=by
  unfold F xi hf
  rw [Rat.intCast_add]
  have:((1:Int):Rat)=1:=rfl
  rw [this]
  grind
theorem slabs (i:Nat) (K:Int) (h1:K≤c.Y i) (h2:K≤c.Y (nx c.n i)):∀m:Nat,sq (fun m=>if c.span i (K+(m:Nat)) then (c.dir i:Rat)*c.xi i (hf (K+(m:Nat))) else 0) m=(c.dir i:Rat)*(c.F i ((max (min (c.Y i) (c.Y (nx c.n i))) (min (K+(m:Nat)) (max (c.Y i) (c.Y (nx c.n i)))):Int):Rat) - c.F i ((min (c.Y i) (c.Y (nx c.n i)):Int):Rat))
  |0=>by
    have e:max (min (c.Y i) (c.Y (nx c.n i))) (min (K+((0:Nat):Int)) (max (c.Y i) (c.Y (nx c.n i))))=min (c.Y i) (c.Y (nx c.n i)):=by omega
    rw [e];unfold sq;grind
  |m+1=>by
    rw [sq_s]
    rw [slabs i K h1 h2 m]
    by_cases s:c.span i (K+(m:Nat))
    · rw [if_pos s]
      unfold span at s
      have e1:max (min (c.Y i) (c.Y (nx c.n i))) (min (K+(m:Nat)) (max (c.Y i) (c.Y (nx c.n i))))=K+(m:Nat):=by omega
      have e2:max (min (c.Y i) (c.Y (nx c.n i))) (min (K+((m+1:Nat):Int)) (max (c.Y i) (c.Y (nx c.n i))))=K+(m:Nat)+1:=by omega
      rw [e1,e2,F_mid]
      grind
    · rw [if_neg s]
      unfold span at s
      have e1:max (min (c.Y i) (c.Y (nx c.n i))) (min (K+((m+1:Nat):Int)) (max (c.Y i) (c.Y (nx c.n i))))=max (min (c.Y i) (c.Y (nx c.n i))) (min (K+(m:Nat)) (max (c.Y i) (c.Y (nx c.n i)))):=by omega
      rw [e1];grind
theorem Ok.edge (h:c.Ok) {i:Nat} (hi:i<c.n) {K:Int} {N:Nat} (h1:∀j,j<c.n→K≤c.Y j∧c.Y j≤K+N):sq (fun m=>if c.span i (K+(m:Nat)) then (c.dir i:Rat)*c.xi i (hf (K+(m:Nat))) else 0) N=(c.y (nx c.n i) - c.y i)*(c.x i+c.x (nx c.n i)) / 2:=by
  have a:=h1 i hi
  have b:=h1 _ (nx_lt hi)
  rw [slabs i K a.1 b.1]
  have e:max (min (c.Y i) (c.Y (nx c.n i))) (min (K+(N:Int)) (max (c.Y i) (c.Y (nx c.n i))))=max (c.Y i) (c.Y (nx c.n i)):=by omega
  rw [e]
  have x0:=xi_0 c i
  have x1:=h.xi_1 hi
  unfold xi at x0 x1
  by_cases z:c.Y i<c.Y (nx c.n i)
  · rw [dir_up z, show min (c.Y i) (c.Y (nx c.n i)) = c.Y i by omega, show max (c.Y i) (c.Y (nx c.n i)) = c.Y (nx c.n i) by omega]
    show ((1:Int):Rat)*(c.F i (c.y (nx c.n i)) - c.F i (c.y i))=_
    have:((1:Int):Rat)=1:=rfl
    rw [this,←x0,←x1]
    unfold F;grind
  · rw [dir_dn z, show min (c.Y i) (c.Y (nx c.n i)) = c.Y (nx c.n i) by omega, show max (c.Y i) (c.Y (nx c.n i)) = c.Y i by omega]
    show ((-1:Int):Rat)*(c.F i (c.y i) - c.F i (c.y (nx c.n i)))=_
    have:((-1:Int):Rat)= -1:=by decide +kernel
    rw [this,←x0,←x1]
    unfold F;grind
theorem bound (f:Nat→Int):∀n:Nat,∃N:Nat,∀j,j<n→ -(N:Int)≤f j∧f j≤N
  |0=>⟨0,fun j hj=>by omega⟩
  |n+1=>by
    obtain ⟨N,hN⟩:=bound f n
    refine ⟨N+(f n).natAbs,fun j hj=> ?_⟩
    by_cases e:j=n
    · subst e;omega
    · have:=hN j (by omega);omega
theorem Ok.area (h:c.Ok):sq (fun i=>(c.y (nx c.n i) - c.y i)*(c.x i+c.x (nx c.n i)) / 2) c.n≠0:=fun hz=>by
  obtain ⟨N,hN⟩:=bound c.Y c.n
  obtain ⟨s,hs,hp⟩:=h.pl_sg
  have h3:=h.n3
  have e:sq (fun i=>(c.y (nx c.n i) - c.y i)*(c.x i+c.x (nx c.n i)) / 2) c.n=sq (fun m=>c.pl (-(N:Int)+(m:Nat))) (2*N):=by
    rw [sq_congr (g:=fun i=>sq (fun m=>if c.span i (-(N:Int)+(m:Nat)) then (c.dir i:Rat)*c.xi i (hf (-(N:Int)+(m:Nat))) else 0) (2*N)) fun i hi=>(h.edge hi (K:= -(N:Int)) (N:=2*N) fun j hj=>by have:=hN j hj;omega).symm]
    rw [sq_ex];rfl
  have h0:=hN 0 (by omega)
  have h1:=hN _ (nx_lt (show 0<c.n by omega))
  have hne:=h.ne (show 0<c.n by omega)
  have hne2:c.Y (nx c.n 0)≠c.Y 0:=fun q=>hne (by unfold y;rw [q])
  have h2:s*sq (fun m=>c.pl (-(N:Int)+(m:Nat))) (2*N)<0:=by
    rw [← sq_mul]
    refine sq_lt (i:=(c.lo 0+N).toNat) (fun j hj=>(hp _).1) (by unfold lo;omega) ((hp _).2 0 (by omega) ?_)
    unfold span lo;omega
  rw [← e,hz] at h2
  grind
end Pol
end Go.Proofs.YtjcpbhlijoigfaaGreat.Sw
namespace Go.Proofs.YtjcpbhlijoigfaaGreat.Sw
open Pg
set_option linter.unusedVariables false
abbrev MM:Int:=8388608
def sY (p:P2):Int:=8388608*p.2 - p.1
def ofL (l:List P2):Pol:=⟨l.length,fun i=>(gt l i).1,fun i=>sY (gt l i)⟩
theorem nx_md {n i:Nat} (h:i<n):nx n i=(i+1)%n:=by
  have h1:=nx_c n i
  have h2:=md_c (x:=i+1) (m:=n) (by omega)
  omega
theorem sY_inj {p q:P2} (hp:inR p) (hq:inR q) (h:sY p=sY q):p=q:=by
  unfold sY at h;unfold inR at hp hq
  exact Prod.ext (by omega) (by omega)
theorem crs_sh (a b p:P2):(b.1 - a.1)*(sY p - sY a) - (sY b - sY a)*(p.1 - a.1)=MM*crs a b p:=by
  unfold sY crs;grind
theorem btw {D d e f:Int} (h0:0<d) (h1:d<D) (h:f*D=d*e):(0≤e→0≤f∧f≤e)∧(e≤0→e≤f∧f≤0):=by
  constructor
  · intro he
    have p1:=Int.mul_nonneg (show 0≤d by omega) he
    have p2:=Int.mul_nonneg (show 0≤D - d by omega) he
    constructor
    · refine Int.not_lt.1 fun k => ?_
      have:=Int.mul_pos (show 0< -f by omega) (show 0<D by omega)
      grind
    · refine Int.not_lt.1 fun k => ?_
      have:=Int.mul_pos (show 0<f - e by omega) (show 0<D by omega)
      grind
  · intro he
    have p1:=Int.mul_nonneg (show 0≤d by omega) (show 0≤ -e by omega)
    have p2:=Int.mul_nonneg (show 0≤D - d by omega) (show 0≤ -e by omega)
    constructor
    · refine Int.not_lt.1 fun k => ?_
      have:=Int.mul_pos (show 0<e - f by omega) (show 0<D by omega)
      grind
    · refine Int.not_lt.1 fun k => ?_
      have:=Int.mul_pos (show 0<f by omega) (show 0<D by omega)
      grind
theorem btw2 {u v x:Int} {D d:Int} (h0:0<d) (h1:d<D) (h:(x - u)*D=d*(v - u)):min u v≤x∧x≤max u v:=by
  obtain ⟨b1,b2⟩:=btw h0 h1 h
  rcases Int.le_total 0 (v - u) with k|k
  · have:=b1 k;omega
  · have:=b2 k;omega
theorem on_sh {a b p:P2} (h0:sY a<sY p∧sY p<sY b) (h:(b.1 - a.1)*(sY p - sY a) - (sY b - sY a)*(p.1 - a.1)=0):onS a b p:=by
  have hc:=crs_sh a b p
  rw [h] at hc
  have hc0:crs a b p=0:=by unfold MM at hc;omega
  refine ⟨hc0,?_⟩
  have e1:=btw2 (u:=a.1) (v:=b.1) (x:=p.1) (D:=sY b - sY a) (d:=sY p - sY a) (by omega) (by omega) (by grind)
  have e2:=btw2 (u:=a.2) (v:=b.2) (x:=p.2) (D:=sY b - sY a) (d:=sY p - sY a) (by omega) (by omega) (by
    have:MM*((p.2 - a.2)*(sY b - sY a))=MM*((sY p - sY a)*(b.2 - a.2)):=by unfold sY MM at *;grind
    exact Int.eq_of_mul_eq_mul_left (by decide) this)
  exact ⟨e1.1,e1.2,e2.1,e2.2⟩
theorem on_sw {a b p:P2} (h:onS b a p):onS a b p:=by
  refine ⟨by rw [crs_sw];have:=h.1;omega,?_⟩
  have:=h.2
  unfold betw at *;omega
theorem side {c:Pol} (i:Nat) (hne:c.y (nx c.n i)≠c.y i) (X Y:Int):((X:Rat) - c.xi i (Y:Rat))*(c.y (nx c.n i) - c.y i)= -(((c.X (nx c.n i) - c.X i)*(Y - c.Y i) - (c.Y (nx c.n i) - c.Y i)*(X - c.X i):Int):Rat):=by
  have h2:c.sl i*(c.y (nx c.n i) - c.y i)=c.x (nx c.n i) - c.x i:=by
    unfold Pol.sl
    exact Rat.div_mul_cancel (by grind)
  simp only [Rat.intCast_sub,Rat.intCast_mul]
  unfold Pol.xi Pol.co
  unfold Pol.x Pol.y at*
  grind
theorem opp_mul {u v:Rat} (h:Pol.opp u v):u*v<0:=by
  rcases h with ⟨a,b⟩|⟨a,b⟩
  · have:=Rat.mul_pos (show 0< -u by grind) b;grind
  · have:=Rat.mul_pos a (show 0< -v by grind);grind
theorem sgn_opp {u v e:Rat} {z w:Int} (h:Pol.opp u v) (he:e≠0) (h1:u*e=(z:Rat)) (h2:v*e=(w:Rat)):z*w<0:=by
  have k:=opp_mul h
  have he2:0<e*e:=by
    rcases lt_or_le 0 e with q|q
    · exact Rat.mul_pos q q
    · have:=Rat.mul_pos (show 0< -e by grind) (show 0< -e by grind);grind
  have k2:(z:Rat)*(w:Rat)=(u*v)*(e*e):=by rw [← h1,←h2];grind
  have k3:=Rat.mul_pos (show 0< -(u*v) by grind) he2
  have k4:((z*w:Int):Rat)<((0:Int):Rat):=by
    rw [Rat.intCast_mul,k2]
    have:((0:Int):Rat)=0:=rfl
    rw [this];grind
  exact Rat.intCast_lt_intCast.1 k4
theorem sgn_mm {z w:Int} (h:(MM*z)*(MM*w)<0):z.sign*w.sign<0:=by
  have h1:z*w<0:=by
    refine Int.not_le.1 fun k=> ?_
    have:(MM*z)*(MM*w)=MM*MM*(z*w):=by grind
    have k2:0≤MM*MM*(z*w):=Int.mul_nonneg (by decide) k
    omega
  rw [← Int.sign_mul,Int.sign_eq_neg_one_of_neg h1];decide
theorem ok_of {n:Nat} {l:List P2} (h:Sm n l) (hr:∀x∈l,inR x):(ofL l).Ok:=by
  have hl:=h.len
  have hg:∀i,i<l.length→inR (gt l i):=fun i hi=>Pg.Ok.gt hr hi
  have hinj:∀i j,i<l.length→j<l.length→(ofL l).y i=(ofL l).y j→i=j:=fun i j hi hj e=>by
    have e2:sY (gt l i)=sY (gt l j):=Rat.intCast_inj.1 e
    exact h.inj (by omega) (by omega) (sY_inj (hg i hi) (hg j hj) e2)
  have h3:=h.n3
  have hne:∀i,i<l.length→(ofL l).y (nx l.length i)≠(ofL l).y i:=fun i hi k=>by
    have:=hinj _ _ (nx_lt hi) hi k
    have:=nx_c l.length i
    omega
  refine ⟨by show 3≤l.length;omega,hinj,fun i w hi hw w1 w2 ho e=> ?_,fun i j hi hj j1 j2 j3 hh=> ?_⟩
  · have hi' : i < l.length := hi
    have hw':w<l.length:=hw
    have hs:=side i (hne i hi) (gt l w).1 (sY (gt l w))
    rw [show (((gt l w).1:Int):Rat)=(ofL l).x w from rfl,show ((sY (gt l w):Int):Rat)=(ofL l).y w from rfl,←e] at hs
    have hz:(((gt l (nx l.length i)).1 - (gt l i).1)*(sY (gt l w) - sY (gt l i)) - (sY (gt l (nx l.length i)) - sY (gt l i))*((gt l w).1 - (gt l i).1):Int)=0:=by
      refine Rat.intCast_inj.1 ?_
      show (((((gt l (nx l.length i)).1 - (gt l i).1)*(sY (gt l w) - sY (gt l i)) - (sY (gt l (nx l.length i)) - sY (gt l i))*((gt l w).1 - (gt l i).1):Int):Rat))=0
      have: -(((((gt l (nx l.length i)).1 - (gt l i).1)*(sY (gt l w) - sY (gt l i)) - (sY (gt l (nx l.length i)) - sY (gt l i))*((gt l w).1 - (gt l i).1):Int):Rat))=0:=by
        refine Eq.trans hs.symm ?_
        grind
      grind
    have hon:onS (gt l i) (gt l (nx l.length i)) (gt l w):=by
      unfold Pol.os Pol.y at ho
      rcases ho with ⟨p,q⟩|⟨p,q⟩
      · exact on_sh ⟨Rat.intCast_lt_intCast.1 p,Rat.intCast_lt_intCast.1 q⟩ hz
      · refine on_sw (on_sh ⟨Rat.intCast_lt_intCast.1 p, Rat.intCast_lt_intCast.1 q⟩ ?_)
        grind
    have en:nx l.length i=(i+1)%n:=by rw [← hl];exact nx_md hi
    by_cases k:nx l.length w=i
    · refine h.a w (by omega) (.inr ?_)
      have e1:(w+1)%n=i:=by rw [← hl,←nx_md hw'];exact k
      have e2:(w+2)%n=(i+1)%n:=by rw [← e1,Nat.mod_add_mod]
      rw [e1,e2,←en];exact hon
    · refine h.b i w (by omega) (by omega) (fun q => w1 q.symm) (fun q => w2 (by rw [← q, ← en]; rfl)) (fun q => k (by rw [nx_md hw', hl]; exact q)) ?_
      rw [← en]
      exact .inr (.inl hon)
  · have hi' : i < l.length := hi
    have hj':j<l.length:=hj
    have en:nx l.length i=(i+1)%n:=by rw [← hl];exact nx_md hi
    have em:nx l.length j=(j+1)%n:=by rw [← hl];exact nx_md hj
    refine h.b i j (by omega) (by omega) (fun q=>j1 q.symm) (fun q=>j2 (by rw [← q,←en];rfl)) (fun q=>j3 (by rw [← q,←em];rfl)) (.inl ?_)
    rw [← en,←em]
    have hok1:=hne i hi
    have hok2:=hne j hj
    have x1:(ofL l).xi j ((ofL l).y (nx l.length j))=(ofL l).x (nx l.length j):=by
      have h2:(ofL l).sl j*((ofL l).y (nx l.length j) - (ofL l).y j)=(ofL l).x (nx l.length j) - (ofL l).x j:=by
        unfold Pol.sl
        exact Rat.div_mul_cancel (by show (ofL l).y (nx l.length j) - (ofL l).y j≠0;grind)
      unfold Pol.xi Pol.co;grind
    have x2:(ofL l).xi i ((ofL l).y (nx l.length i))=(ofL l).x (nx l.length i):=by
      have h2:(ofL l).sl i*((ofL l).y (nx l.length i) - (ofL l).y i)=(ofL l).x (nx l.length i) - (ofL l).x i:=by
        unfold Pol.sl
        exact Rat.div_mul_cancel (by show (ofL l).y (nx l.length i) - (ofL l).y i≠0;grind)
      unfold Pol.xi Pol.co;grind
    obtain ⟨ha,hb⟩:=hh
    rw [Pol.G_eq,Pol.G_eq,Pol.xi_0] at ha
    rw [Pol.G_eq,Pol.G_eq,Pol.xi_0] at hb
    have x1':(ofL l).xi j ((ofL l).y (nx (ofL l).n j))=(ofL l).x (nx l.length j):=x1
    have x2':(ofL l).xi i ((ofL l).y (nx (ofL l).n i))=(ofL l).x (nx l.length i):=x2
    rw [x1'] at ha
    rw [x2'] at hb
    have s1:=side i (hne i hi) (gt l j).1 (sY (gt l j))
    have s2:=side i (hne i hi) (gt l (nx l.length j)).1 (sY (gt l (nx l.length j)))
    have s3:=side j (hne j hj) (gt l i).1 (sY (gt l i))
    have s4:=side j (hne j hj) (gt l (nx l.length i)).1 (sY (gt l (nx l.length i)))
    have c1:=crs_sh (gt l i) (gt l (nx l.length i)) (gt l j)
    have c2:=crs_sh (gt l i) (gt l (nx l.length i)) (gt l (nx l.length j))
    have c3:=crs_sh (gt l j) (gt l (nx l.length j)) (gt l i)
    have c4:=crs_sh (gt l j) (gt l (nx l.length j)) (gt l (nx l.length i))
    constructor
    · refine sgn_mm ?_
      have:=sgn_opp ha (e:=(ofL l).y (nx l.length i) - (ofL l).y i) (by grind) (z:= -(MM*crs (gt l i) (gt l (nx l.length i)) (gt l j))) (w:= -(MM*crs (gt l i) (gt l (nx l.length i)) (gt l (nx l.length j)))) (by rw [← c1,Rat.intCast_neg];exact s1) (by rw [← c2,Rat.intCast_neg];exact s2)
      grind
    · refine sgn_mm ?_
      have hb':Pol.opp ((ofL l).x i - (ofL l).xi j ((ofL l).y i)) ((ofL l).x (nx l.length i) - (ofL l).xi j ((ofL l).y (nx l.length i))):=by
        unfold Pol.opp at hb ⊢
        have hn:(ofL l).n=l.length:=rfl
        rw [hn] at hb
        grind
      have:=sgn_opp hb' (e:=(ofL l).y (nx l.length j) - (ofL l).y j) (by grind) (z:= -(MM*crs (gt l j) (gt l (nx l.length j)) (gt l i))) (w:= -(MM*crs (gt l j) (gt l (nx l.length j)) (gt l (nx l.length i)))) (by rw [← c3,Rat.intCast_neg];exact s3) (by rw [← c4,Rat.intCast_neg];exact s4)
      grind
end Go.Proofs.YtjcpbhlijoigfaaGreat.Sw
namespace Go.Proofs.YtjcpbhlijoigfaaGreat.Sw
open Pg
set_option linter.unusedVariables false
theorem sq_tel {n:Nat} (hn:1≤n) (v:Nat→Rat):sq (fun i=>v (nx n i) - v i) n=0:=by
  have h1:∀m,m<n→sq (fun i=>v (nx n i) - v i) m=v m - v 0:=fun m=>by
    induction m with
    |zero=>intro _;show (0:Rat)=_;grind
    |succ m ih=>
      intro hm
      have e:nx n m=m+1:=by have:=nx_c n m;omega
      rw [sq_s,ih (by omega),e];grind
  have e:n=(n - 1)+1:=by omega
  have e2:nx n (n - 1)=0:=by have:=nx_c n (n - 1);omega
  have h2:=h1 (n - 1) (by omega)
  have h3:sq (fun i=>v (nx n i) - v i) ((n - 1)+1)=0:=by
    rw [sq_s,h2,e2];grind
  rw [← e] at h3
  exact h3
theorem sq_db (n:Nat) (l:List P2):∀m,sq (fun i=>((tm n l i:Int):Rat)) m=((dbN n l m:Int):Rat)
  |0=>rfl
  |m+1=>by rw [sq_s,sq_db n l m,←Rat.intCast_add];rfl
def vv (l:List P2) (i:Nat):Rat:=(4194304:Rat)*((ofL l).x i*(((gt l i).2:Int):Rat)) - (ofL l).x i*(ofL l).x i / 2
theorem db_ne {n:Nat} {l:List P2} (h:Sm n l) (hr:∀x∈l,inR x):db l≠0:=fun hz=>by
  have hok:=ok_of h hr
  have hl:=h.len
  have h3:=h.n3
  refine hok.area ?_
  have e:∀i,i<l.length→((ofL l).y (nx (ofL l).n i) - (ofL l).y i)*((ofL l).x i+(ofL l).x (nx (ofL l).n i)) / 2=(4194304:Rat)*((tm l.length l i:Int):Rat)+(vv l (nx l.length i) - vv l i):=fun i hi=>by
    have hy:∀j,(ofL l).y j=8388608*(((gt l j).2:Int):Rat) - (ofL l).x j:=fun j=>by
      show ((sY (gt l j):Int):Rat)=8388608*(((gt l j).2:Int):Rat) - (((gt l j).1:Int):Rat)
      unfold sY
      rw [Rat.intCast_sub,Rat.intCast_mul];rfl
    have ht:((tm l.length l i:Int):Rat)=(ofL l).x i*(((gt l (nx l.length i)).2:Int):Rat) - (ofL l).x (nx l.length i)*(((gt l i).2:Int):Rat):=by
      unfold tm
      rw [← nx_md hi,Rat.intCast_sub,Rat.intCast_mul,Rat.intCast_mul];rfl
    rw [hy,hy,ht]
    unfold vv
    show _=_
    have:(ofL l).n=l.length:=rfl
    rw [this]
    grind
  have e2:sq (fun i=>((ofL l).y (nx (ofL l).n i) - (ofL l).y i)*((ofL l).x i+(ofL l).x (nx (ofL l).n i)) / 2) l.length=0:=by
    rw [sq_congr e,sq_add,sq_mul,sq_db,sq_tel (by omega) (vv l)]
    have:dbN l.length l l.length=0:=hz
    rw [this]
    show (4194304:Rat)*((0:Int):Rat)+0=0
    have:((0:Int):Rat)=0:=rfl
    rw [this];grind
  exact e2
def cr (q a b:P2):Int:=if a.2≤q.2∧q.2<b.2∧0<crs a b q then 1 else if b.2≤q.2∧q.2<a.2∧crs a b q<0 then -1 else 0
end Go.Proofs.YtjcpbhlijoigfaaGreat.Sw
namespace Go.Proofs.YtjcpbhlijoigfaaGreat.Pg
set_option linter.unusedVariables false
theorem sgc (z:Int):z<0∧z.sign= -1∨z=0∧z.sign=0∨0<z∧z.sign=1:=by
  rcases Int.lt_trichotomy z 0 with h|h|h
  · exact .inl ⟨h,Int.sign_eq_neg_one_of_neg h⟩
  · exact .inr (.inl ⟨h,by rw [h];rfl⟩)
  · exact .inr (.inr ⟨h,Int.sign_eq_one_of_pos h⟩)
theorem map_er (f:Nat→P2):∀(L:List Nat) (k:Nat),(L.eraseIdx k).map f=(L.map f).eraseIdx k
  |[],_=>rfl
  |a :: L,0=>rfl
  |a :: L,k+1=>by show f a :: (L.eraseIdx k).map f=f a :: (L.map f).eraseIdx k;rw [map_er f L k]
def tr3 (l:List P2) (i:Nat):Int:=crs (gt l i) (gt l ((i+1)%l.length)) (gt l ((i+2)%l.length))
def cvI (l:List P2) (i:Nat):Prop:=(tr3 l i).sign=0∨(tr3 l i).sign=(db l).sign
instance (l:List P2) (i:Nat):Decidable (cvI l i):=inferInstanceAs (Decidable (_∨_))
def cvR (l:List P2):Prop:=∀i,i<l.length→cvI l i
instance (l:List P2):Decidable (cvR l):=inferInstanceAs (Decidable (∀i,i<l.length→_))
theorem cvR_n {l:List P2} {n:Nat} (hn:l.length=n):cvR l↔∀i,i<n→cvI l i:=by subst hn;exact Iff.rfl
theorem corn_c {l:List P2} {n:Nat} (hn:l.length=n) {i:Nat} (hi:i<n):corn l (sg l) (List.range n) ((i+1)%n)=sg l*(tr3 l i).sign:=by
  have h1:=md_c (x:=i+1) (m:=n) (by omega)
  have h2:i+2<2*n∨n=1:=by omega
  have hl:(List.range n).length=n:=List.length_range
  have e1:px n ((i+1)%n)=i:=by have:=px_c n ((i+1)%n);omega
  have e2:sx n ((i+1)%n)=(i+2)%n:=by rw [sx_md (by omega)]
  unfold corn tr3
  rw [hl,e1,e2,range_nt hi,range_nt (Nat.mod_lt _ (by omega)),range_nt (Nat.mod_lt _ (by omega)),hn]
theorem cv_of {l:List P2} {n:Nat} (hn:l.length=n) (hd:db l≠0) {i:Nat} (hi:i<n):¬corn l (sg l) (List.range n) ((i+1)%n)<0↔cvI l i:=by
  rw [corn_c hn hi]
  have h1:=sgc (tr3 l i)
  have h2:=sgc (db l)
  unfold cvI
  by_cases k:db l<0
  · rw [sg_neg k];omega
  · rw [sg_pos k];omega
theorem cv_iff {l:List P2} {n:Nat} (hn:l.length=n) (hd:db l≠0):cvR l↔∀v,v<n→¬corn l (sg l) (List.range n) v<0:=by
  rw [cvR_n hn]
  constructor
  · intro h v hv
    have h1:=md_c (x:=v+n - 1) (m:=n) (by omega)
    have h2:=md_c (x:=(v+n - 1)%n+1) (m:=n) (by omega)
    have h3:=(cv_of hn hd (i:=(v+n - 1)%n) (Nat.mod_lt _ (by omega))).2 (h _ (Nat.mod_lt _ (by omega)))
    rw [show ((v+n - 1)%n+1)%n=v by omega] at h3
    exact h3
  · intro h i hi
    exact (cv_of hn hd hi).1 (h _ (Nat.mod_lt _ (by omega)))
def st (l:List P2) (i:Nat):Prop:=crs (gt l ((i+l.length - 1)%l.length)) (gt l i) (gt l ((i+1)%l.length))=0
instance (l:List P2) (i:Nat):Decidable (st l i):=inferInstanceAs (Decidable (_=_))
def td:Nat→List P2→List P2
  |0,l=>l
  |f+1,l=>match fst l.length (st l) with
    |none=>l
    |some k=>td f (l.eraseIdx k)
def tdV (l:List P2):List P2:=td l.length l
theorem td_some {l:List P2} {k:Nat} (hk:k<l.length) (hp:st l k) (hn:∀j,j<k→¬st l j):tdV l=tdV (l.eraseIdx k):=by
  have hlen:(l.eraseIdx k).length=l.length - 1:=by rw [List.length_eraseIdx,if_pos hk]
  unfold tdV
  rw [hlen,show l.length=(l.length - 1)+1 by omega]
  conv=>lhs;unfold td
  rw [fst_some hk hp hn]
  rfl
theorem td_none {l:List P2} (hn:∀j,j<l.length→¬st l j):tdV l=l:=by
  unfold tdV
  cases h:l.length with
  |zero=>rfl
  |succ m=>
    unfold td
    rw [fst_none hn]
def ps (l:List P2) (L:List Nat):List P2:=L.map (gt l)
theorem ps_len (l:List P2) (L:List Nat):(ps l L).length=L.length:=List.length_map _
theorem ps_get {l:List P2} {L:List Nat} {i:Nat} (h:i<L.length):gt (ps l L) i=gt l (nt L i):=by
  unfold ps gt nt
  rw [List.getD_eq_getElem?_getD,List.getElem?_map,List.getElem?_eq_getElem h,List.getD_eq_getElem?_getD (l:=L),List.getElem?_eq_getElem h];rfl
theorem ps_erase (l:List P2) (L:List Nat) (k:Nat):ps l (L.eraseIdx k)=(ps l L).eraseIdx k:=map_er _ _ _
theorem ps_all {l:List P2} {n:Nat} (hn:l.length=n):ps l (List.range n)=l:=by
  subst hn
  refine List.ext_getElem? fun i=> ?_
  unfold ps
  rw [List.getElem?_map]
  by_cases h:i<l.length
  · rw [List.getElem?_range h, List.getElem?_eq_getElem h]
    show some (gt l i)=_
    unfold gt
    rw [List.getD_eq_getElem?_getD,List.getElem?_eq_getElem h];rfl
  · rw [List.getElem?_eq_none (by simp;omega),List.getElem?_eq_none (by omega)];rfl
theorem st_corn {l:List P2} {s:Int} (hs:s=1∨s= -1) {L:List Nat} {i:Nat} (hi:i<L.length):corn l s L i=0↔st (ps l L) i:=by
  have hl:=ps_len l L
  have h1:=md_c (x:=i+L.length - 1) (m:=L.length) (by omega)
  have h2:=md_c (x:=i+1) (m:=L.length) (by omega)
  have e1:(i+L.length - 1)%L.length=px L.length i:=by have:=px_c L.length i;omega
  have e2:(i+1)%L.length=sx L.length i:=by have:=sx_c L.length i;omega
  unfold st corn
  rw [hl,e1,e2,ps_get hi,ps_get (px_lt hi),ps_get (sx_lt hi)]
  generalize crs _ _ _=z
  have:=sgc z
  rcases hs with rfl|rfl <;> omega
def cx (a b:P2):Int:=a.1*b.2 - b.1*a.2
theorem dbN_cx (n:Nat) (l:List P2):∀m,dbN n l m=Sw.su (fun i=>cx (gt l i) (gt l ((i+1)%n))) m
  |0=>rfl
  |m+1=>by rw [Sw.su_s,←dbN_cx n l m];rfl
def ch:P2→List P2→Int
  |_,[]=>0
  |a,b :: l=>cx a b+ch b l
theorem ch_app (a:P2) (l:List P2) (b:P2) (m:List P2):ch a (l++b :: m)=ch a (l++[b])+ch b m:=by
  induction l generalizing a with
  |nil=>show cx a b+ch b m=cx a b+0+ch b m;omega
  |cons c l ih=>show cx a c+ch c (l++b :: m)=cx a c+ch c (l++[b])+ch b m;rw [ih];omega
def dc:List P2→Int
  |[]=>0
  |a :: l=>ch a (l++[a])
theorem ch_su (a:P2) (l:List P2):∀i,i<(a :: l).length→ch a (l.take i)=Sw.su (fun i=>cx (gt (a :: l) i) (gt (a :: l) (i+1))) i
  |0,_=>by rw [List.take_zero];rfl
  |i+1,h=>by
    have hi:i<l.length:=by simp at h;omega
    rw [Sw.su_s,←ch_su a l i (by simp;omega),Ms.take_snoc (0,0) hi]
    have key:∀(a:P2) (m:List P2) (b:P2),ch a (m++[b])=ch a m+cx (gt (a :: m) m.length) b:=fun a m b=>by
      induction m generalizing a with
      |nil=>show cx a b+0=0+cx a b;omega
      |cons c m ih=>show cx a c+ch c (m++[b])=cx a c+ch c m+_;rw [ih];show _+(_+cx (gt (c :: m) m.length) b)=_+_+cx (gt (c :: m) m.length) b;omega
    rw [key]
    have hl:(l.take i).length=i:=by rw [List.length_take];omega
    rw [hl]
    have e1:gt (a :: l.take i) i=gt (a :: l) i:=by
      unfold gt
      simp only [List.getD_eq_getElem?_getD]
      cases i with
      |zero=>rfl
      |succ j=>simp
    rw [e1];rfl
theorem db_dc (l:List P2):db l=dc l:=by
  cases l with
  |nil=>rfl
  |cons a l=>
    unfold db
    rw [dbN_cx]
    show Sw.su _ (l.length+1)=ch a (l++[a])
    have key:∀(a:P2) (m:List P2) (b:P2),ch a (m++[b])=ch a m+cx (gt (a :: m) m.length) b:=fun a m b=>by
      induction m generalizing a with
      |nil=>show cx a b+0=0+cx a b;omega
      |cons c m ih=>show cx a c+ch c (m++[b])=cx a c+ch c m+_;rw [ih];show _+(_+cx (gt (c :: m) m.length) b)=_+_+cx (gt (c :: m) m.length) b;omega
    have h1:=ch_su a l l.length (by simp)
    rw [List.take_length] at h1
    rw [key,h1,Sw.su_s]
    have e:(l.length+1)%(a :: l).length=0:=by rw [List.length_cons];exact Nat.mod_self _
    rw [e]
    have e2:gt (a :: l) 0=a:=rfl
    rw [e2]
    congr 1
    refine Sw.su_congr fun j hj=> ?_
    rw [Nat.mod_eq_of_lt (by rw [List.length_cons];omega)]
theorem dc_rot (a:P2) (l:List P2):dc (a :: l)=dc (l++[a]):=by
  cases l with
  |nil=>rfl
  |cons b l=>
    show cx a b+ch b (l++[a])=ch b ((l++[a])++[b])
    rw [List.append_assoc,List.singleton_append,ch_app b l a [b]]
    show cx a b+_=_+(cx a b+0);omega
theorem dc_swap (A B:List P2):dc (A++B)=dc (B++A):=by
  induction A generalizing B with
  |nil=>simp
  |cons a A ih=>
    rw [List.cons_append,dc_rot,List.append_assoc,ih,List.append_assoc];rfl
theorem dc_cut {a b c:P2} (h:crs a b c=0) (l:List P2):dc (b :: c :: (l++[a]))=dc (c :: (l++[a])):=by
  show cx b c+ch c ((l++[a])++[b])=ch c ((l++[a])++[c])
  rw [List.append_assoc,List.append_assoc,List.singleton_append,List.singleton_append,ch_app c l a [b],ch_app c l a [c]]
  show cx b c+(_+(cx a b+0))=_+(cx a c+0)
  unfold crs at h
  unfold cx
  grind
theorem dc_two (a b:P2):dc [a,b]=0:=by
  show cx a b+(cx b a+0)=0
  unfold cx;grind
theorem db_erase {l:List P2} {k:Nat} (hk:k<l.length) (h2:2≤l.length) (h:st l k):db (l.eraseIdx k)=db l:=by
  rw [db_dc,db_dc]
  have e:l=l.take k++gt l k :: l.drop (k+1):=by
    conv=>lhs;rw [← List.take_append_drop k l,Ms.drop_cons (0,0) hk]
  have e2:l.eraseIdx k=l.take k++l.drop (k+1):=List.eraseIdx_eq_take_drop_succ l k
  rw [e2,dc_swap]
  conv=>rhs;rw [e,dc_swap]
  show dc (l.drop (k+1)++l.take k)=dc (gt l k :: (l.drop (k+1)++l.take k))
  have hlen:(l.drop (k+1)++l.take k).length=l.length - 1:=by rw [List.length_append,List.length_drop,List.length_take];omega
  have hg:∀j,j<l.length - 1→gt (l.drop (k+1)++l.take k) j=gt l ((k+1+j)%l.length):=fun j hj=>by
    have hm:=md_c (x:=k+1+j) (m:=l.length) (by omega)
    unfold gt
    simp only [List.getD_eq_getElem?_getD]
    by_cases c:j<l.length - (k+1)
    · rw [List.getElem?_append_left (by rw [List.length_drop]; exact c), List.getElem?_drop]
      rw [show (k+1+j)%l.length=k+1+j by omega]
    · rw [List.getElem?_append_right (by rw [List.length_drop]; omega), List.getElem?_take, List.length_drop, if_pos (by omega)]
      rw [show (k+1+j)%l.length=j - (l.length - (k+1)) by omega]
  generalize hm:l.drop (k+1)++l.take k=m at*
  by_cases h3:l.length=2
  · have : m.length = 1 := by omega
    match m,this with
    |[c],_=>rw [dc_two];show cx c c+0=0;unfold cx;grind
  · -- at least two others
    have hc:gt m 0=gt l ((k+1)%l.length):=hg 0 (by omega)
    have ha:gt m (m.length - 1)=gt l ((k+l.length - 1)%l.length):=by rw [hg _ (by omega)];congr 1;congr 1;omega
    match m,hlen with
    |[],hl=>simp at hl;omega
    |c :: r,hl=>
      have hr:r≠[]:=fun z=>by subst z;simp at hl;omega
      obtain ⟨r',a,rfl⟩:∃r' a,r=r'++[a]:=⟨r.dropLast,r.getLast hr,(List.dropLast_concat_getLast hr).symm⟩
      have hc':c=gt l ((k+1)%l.length):=hc
      have ha':a=gt l ((k+l.length - 1)%l.length):=by
        rw [← ha]
        unfold gt
        simp [List.getD_eq_getElem?_getD]
      refine (dc_cut ?_ r').symm
      rw [hc',ha'];exact h
theorem db_small {l:List P2} (h:l.length<3):db l=0:=by
  rw [db_dc]
  match l,h with
  |[],_=>rfl
  |[a],_=>show cx a a+0=0;unfold cx;grind
  |[a,b],_=>exact dc_two a b
structure TdI (l:List P2) (L:List Nat):Prop where
  v:tdV (ps l L)=tdV l
  d:db (ps l L)=db l
theorem TdI.zero {l:List P2} {n:Nat} (hn:l.length=n):TdI l (List.range n):=⟨by rw [ps_all hn],by rw [ps_all hn]⟩
theorem TdI.n3 {l:List P2} {L:List Nat} (h:TdI l L) (hd:db l≠0):3≤L.length:=Decidable.byContradiction fun k=>by
  have:=db_small (l:=ps l L) (by rw [ps_len];omega)
  rw [h.d] at this
  exact hd this
theorem TdI.step {l:List P2} {L:List Nat} {s:Int} {k:Nat} (h:TdI l L) (hd:db l≠0) (hs:s=1∨s= -1) (hk:k<L.length) (hp:corn l s L k=0) (hn:∀j,j<k→¬corn l s L j=0):TdI l (L.eraseIdx k):=by
  have h3:=h.n3 hd
  have hl:=ps_len l L
  have hp':=(st_corn hs hk).1 hp
  refine ⟨?_,?_⟩
  · rw [ps_erase,←td_some (by omega) hp' fun j hj z=>hn j hj ((st_corn hs (by omega)).2 z)];exact h.v
  · rw [ps_erase,db_erase (by omega) (by omega) hp'];exact h.d
theorem TdI.fin {l:List P2} {L:List Nat} {s:Int} (h:TdI l L) (hs:s=1∨s= -1) (hn:∀j,j<L.length→¬corn l s L j=0):ps l L=tdV l:=by
  have hl:=ps_len l L
  rw [← h.v,td_none fun j hj z=>hn j (by omega) ((st_corn hs (by omega)).2 z)]
theorem ps_take {l:List P2} {L:List Nat} {k:Nat} (h:k<L.length):ps l (L.take (k+1))=ps l (L.take k)++[gt l (nt L k)]:=by
  unfold ps
  rw [Ms.take_snoc 0 h,List.map_append];rfl
theorem Fs.all {n:Nat} {L B N:List Nat} {P:Nat→Prop} {k:Nat} (h:Fs n L P n k) (hr:Rg n L B N):k=L.length:=by
  have:=h.km
  by_cases e:k<L.length
  · have := h.hi k (Nat.le_refl _) e
    have:=hr.lt k e
    omega
  · omega
theorem td_db (m:Nat):∀{l:List P2},l.length=m→2≤m→db (tdV l)=db l:=by
  induction m with
  |zero=>intro l _ h2;omega
  |succ m ih=>
    intro l hl h2
    by_cases hx:∃k,k<l.length∧st l k∧∀j,j<k→¬st l j
    · obtain ⟨k, hk, hp, hn⟩ := hx
      have hlen:(l.eraseIdx k).length=m:=by rw [List.length_eraseIdx,if_pos hk];omega
      rw [td_some hk hp hn,←db_erase hk (by omega) hp]
      by_cases h3:2≤m
      · exact ih hlen h3
      · have h4:∀{q:List P2},q.length=1→db (tdV q)=db q:=fun {q} hq=>by
          match q,hq with
          |[a],_=>
            unfold tdV
            show db (td 1 [a])=_
            unfold td
            split
            · rfl
            · rename_i k he
              have:k=0:=by
                unfold fst at he
                have:=List.mem_of_find?_eq_some he
                simp at this;exact this
              subst this
              show db (td 0 [])=db [a]
              rw [db_small (l:=[a]) (by simp)];rfl
        exact h4 (by omega)
    · rw [td_none fun j hj z => ?_]
      have key:∀i,(∃k,k≤i∧st l k∧∀j,j<k→¬st l j)∨∀j,j≤i→¬st l j:=fun i=>by
        induction i with
        | zero => by_cases c : st l 0
                  · exact .inl ⟨0,Nat.le_refl _,c,fun j hj=>by omega⟩
                  · exact .inr fun j hj=>by rw [show j=0 by omega];exact c
        |succ i ih=>
          rcases ih with ⟨k,a,b,d⟩|h
          · exact .inl ⟨k,by omega,b,d⟩
          · by_cases c : st l (i + 1)
            · exact .inl ⟨i+1,Nat.le_refl _,c,fun j hj=>h j (by omega)⟩
            · exact .inr fun j hj=>by by_cases e:j=i+1;rw [e];exact c;exact h j (by omega)
      rcases key j with ⟨k,a,b,d⟩|h
      · exact hx ⟨k,by omega,b,d⟩
      · exact h j (Nat.le_refl _) z
theorem td_sub (m:Nat):∀{l:List P2},l.length=m→(tdV l).length≤m∧∀x∈tdV l,x∈l:=by
  have key:∀(f:Nat) (l:List P2),(td f l).length≤l.length∧∀x∈td f l,x∈l:=fun f=>by
    induction f with
    |zero=>intro l;exact ⟨Nat.le_refl _,fun x h=>h⟩
    |succ f ih=>
      intro l
      unfold td
      split
      · exact ⟨Nat.le_refl _,fun x h=>h⟩
      · rename_i k _
        obtain ⟨h1,h2⟩:=ih (l.eraseIdx k)
        exact ⟨Nat.le_trans h1 (List.length_eraseIdx_le ..),fun x h=>List.mem_of_mem_eraseIdx (h2 x h)⟩
  intro l hl
  have:=key l.length l
  rw [hl] at this
  unfold tdV
  rw [hl]
  exact this
def cnX (n:Nat) (l:List P2):Nat→Int:=Sw.su fun i=>tm n l i*((gt l i).1+(gt l ((i+1)%n)).1)
def cnY (n:Nat) (l:List P2):Nat→Int:=Sw.su fun i=>tm n l i*((gt l i).2+(gt l ((i+1)%n)).2)
theorem cn_b {x y:Int} (h: -2199023255552≤x∧x≤2199023255552) (hy: -2097152≤y∧y≤2097152): -4611686018427387904≤x*y∧x*y≤4611686018427387904:=by
  have:=mul_b (x:=x) (y:=y) (m:=2199023255552) (n:=2097152) h hy
  omega
theorem cnX_b {l:List P2} {n:Nat} (hn:l.length=n) (h:∀x∈l,inR x):∀{i:Nat},i≤n→ -(4611686018427387904*(i:Int))≤cnX n l i∧cnX n l i≤4611686018427387904*(i:Int)
  |0,_=>⟨by show _≤(0:Int);omega,by show (0:Int)≤_;omega⟩
  |i+1,hi=>by
    have h1:=cnX_b hn h (i:=i) (by omega)
    have h2:=tm_b hn h (i:=i) (by omega)
    have h3:inR (gt l i):=Ok.gt h (by omega)
    have h4:inR (gt l ((i+1)%n)):=Ok.gt h (by rw [hn];exact Nat.mod_lt _ (by omega))
    unfold inR at h3 h4
    have h5:=cn_b h2 (y:=(gt l i).1+(gt l ((i+1)%n)).1) (by omega)
    have e:cnX n l (i+1)=cnX n l i+tm n l i*((gt l i).1+(gt l ((i+1)%n)).1):=rfl
    rw [e];omega
theorem cnY_b {l:List P2} {n:Nat} (hn:l.length=n) (h:∀x∈l,inR x):∀{i:Nat},i≤n→ -(4611686018427387904*(i:Int))≤cnY n l i∧cnY n l i≤4611686018427387904*(i:Int)
  |0,_=>⟨by show _≤(0:Int);omega,by show (0:Int)≤_;omega⟩
  |i+1,hi=>by
    have h1:=cnY_b hn h (i:=i) (by omega)
    have h2:=tm_b hn h (i:=i) (by omega)
    have h3:inR (gt l i):=Ok.gt h (by omega)
    have h4:inR (gt l ((i+1)%n)):=Ok.gt h (by rw [hn];exact Nat.mod_lt _ (by omega))
    unfold inR at h3 h4
    have h5:=cn_b h2 (y:=(gt l i).2+(gt l ((i+1)%n)).2) (by omega)
    have e:cnY n l (i+1)=cnY n l i+tm n l i*((gt l i).2+(gt l ((i+1)%n)).2):=rfl
    rw [e];omega
end Go.Proofs.YtjcpbhlijoigfaaGreat.Pg
namespace Go.Proofs.YtjcpbhlijoigfaaGreat.Sp
open Go
set_option linter.unusedVariables false
def Wd.zz (u v:Wd):Prop:=u.s=false∧v.s=false∧u.n=0∧v.n=0
instance (u v:Wd):Decidable (Wd.zz u v):=inferInstanceAs (Decidable (_∧_))
def qo (y:Big.RQ):Option Rat:=if Big.qok y then some (Big.qv y) else none
section
variable {P : Program} {O : List As} {R : List Fa} {f : Nat} {u v : Wd}
end
end Go.Proofs.YtjcpbhlijoigfaaGreat.Sp
namespace Go.Proofs.YtjcpbhlijoigfaaGreat.Pg
set_option linter.unusedVariables false
open Go.Proofs.YtjcpbhlijoigfaaGreat.Big
abbrev Q2:=Rat×Rat
abbrev gq (l:List Q2) (i:Nat):Q2:=l.getD i ((0:Rat),(0:Rat))
def prq (a b:Q2):Rat:=a.1*b.2 - b.1*a.2
def awq (a b:Q2):Q2:=(b.1 - a.1,b.2 - a.2)
def sdq (a b q:Q2):Rat:=prq (awq a b) (awq a q)
def ptq (s t:Rat) (q r:Q2):Q2:=(q.1+s / (s - t)*(awq q r).1,q.2+s / (s - t)*(awq q r).2)
def hp (K:Nat) (q:Q2):Prop:=hq q.1≤K∧hq q.2≤K
instance (K:Nat) (q:Q2):Decidable (hp K q):=inferInstanceAs (Decidable (_∧_))
theorem hp_mono {K K':Nat} {q:Q2} (h:hp K q) (k:K≤K'):hp K' q:=⟨Nat.le_trans h.1 k,Nat.le_trans h.2 k⟩
theorem hp_awq {a b:Q2} {K L:Nat} (ha:hp K a) (hb:hp L b):hp (K+L+1) (awq a b):=by
  have h1:=hq_sub b.1 a.1
  have h2:=hq_sub b.2 a.2
  have:=ha.1;have:=ha.2;have:=hb.1;have:=hb.2
  exact ⟨by show hq (b.1 - a.1)≤_;omega,by show hq (b.2 - a.2)≤_;omega⟩
structure Pb (K:Nat) (a b:Q2):Prop where
  m1:hq (a.1*b.2)≤K
  m2:hq (b.1*a.2)≤K
  p:hq (prq a b)≤2*K+1
theorem pb {a b:Q2} {K L:Nat} (ha:hp K a) (hb:hp L b):Pb (K+L) a b:=by
  have h1:=hq_mul a.1 b.2
  have h2:=hq_mul b.1 a.2
  have h3:=hq_sub (a.1*b.2) (b.1*a.2)
  have:=ha.1;have:=ha.2;have:=hb.1;have:=hb.2
  exact ⟨by omega,by omega,by unfold prq;omega⟩
theorem hq_sdq {a b q:Q2} {K:Nat} (ha:hp 3 a) (hb:hp 3 b) (h:hp K q):hq (sdq a b q)≤2*K+23:=by
  have h1:=(pb (hp_awq ha hb) (hp_awq ha h)).p
  unfold sdq;omega
structure Nb (K:Nat) (s t:Rat) (q r:Q2):Prop where
  d:hq (s - t)≤4*K+47
  f:hq (s / (s - t))≤6*K+70
  w:hp (2*K+1) (awq q r)
  m1:hq (s / (s - t)*(awq q r).1)≤8*K+71
  m2:hq (s / (s - t)*(awq q r).2)≤8*K+71
  p:hp (9*K+72) (ptq s t q r)
theorem nb {K:Nat} {s t:Rat} {q r:Q2} (hs:hq s≤2*K+23) (ht:hq t≤2*K+23) (hn:s - t≠0) (h1:hp K q) (h2:hp K r):Nb K s t q r:=by
  have a1:=hq_sub s t
  have a2:=hq_div s hn
  have a3:=hp_awq h1 h2
  have a4:=hq_mul (s / (s - t)) (awq q r).1
  have a5:=hq_mul (s / (s - t)) (awq q r).2
  have a6:=hq_add q.1 (s / (s - t)*(awq q r).1)
  have a7:=hq_add q.2 (s / (s - t)*(awq q r).2)
  have:=a3.1;have:=a3.2;have:=h1.1;have:=h1.2
  exact ⟨by omega,by omega,hp_mono a3 (by omega),by omega,by omega,⟨by show hq (q.1+_)≤_;omega,by show hq (q.2+_)≤_;omega⟩⟩
theorem opp {s t:Rat} (h:sgq s*sgq t<0):s - t≠0:=by
  intro e
  have:s=t:=by rw [← sgq_sub_zero,e];rfl
  subst this
  have h1:=sgq_rng s
  have h2:sgq s= -1∨sgq s=0∨sgq s=1:=by omega
  rcases h2 with h2|h2|h2 <;> rw [h2] at h <;> omega
theorem sg_mul (s t:Rat): -1≤sgq s*sgq t∧sgq s*sgq t≤1:=by
  have h1:=sgq_rng s
  have h2:=sgq_rng t
  have h:=mul_b (x:=sgq s) (y:=sgq t) (m:=1) (n:=1) (by omega) (by omega)
  omega
def clA (a b q r:Q2):List Q2:=(if 0≤sgq (sdq a b q) then [q] else [])++(if sgq (sdq a b q)*sgq (sdq a b r)<0 then [ptq (sdq a b q) (sdq a b r) q r] else [])
def clN (n:Nat) (a b:Q2) (l:List Q2):Nat→List Q2
  |0=>[]
  |i+1=>clN n a b l i++clA a b (gq l i) (gq l ((i+1)%n))
def clL (a b:Q2) (l:List Q2):List Q2:=clN l.length a b l l.length
theorem clA_len (a b q r:Q2):(clA a b q r).length≤2:=by unfold clA;split <;> split <;> simp
theorem clN_len {n:Nat} {a b:Q2} {l:List Q2}:∀i,(clN n a b l i).length≤2*i
  |0=>Nat.le_refl _
  |i+1=>by
    have h1:=clN_len (n:=n) (a:=a) (b:=b) (l:=l) i
    have h2:=clA_len a b (gq l i) (gq l ((i+1)%n))
    unfold clN;rw [List.length_append];omega
theorem clL_len {a b:Q2} {l:List Q2}:(clL a b l).length≤2*l.length:=clN_len _
def bq (K:Nat) (l:List Q2):Prop:=∀x∈l,hp K x
instance (K:Nat) (l:List Q2):Decidable (bq K l):=inferInstanceAs (Decidable (∀x∈l,_))
theorem bq_at {K:Nat} {l:List Q2} (h:bq K l) {i:Nat} (hi:i<l.length):hp K (gq l i):=h _ (Ms.getD_mem _ hi)
theorem clA_bq {a b q r:Q2} {K:Nat} (ha:hp 3 a) (hb:hp 3 b) (h1:hp K q) (h2:hp K r):bq (9*K+72) (clA a b q r):=by
  intro x hx
  unfold clA at hx
  rcases List.mem_append.1 hx with hx|hx
  · split at hx
    · rw [List.mem_singleton] at hx;subst hx;exact hp_mono h1 (by omega)
    · cases hx
  · split at hx
    · rename_i hc
      rw [List.mem_singleton] at hx;subst hx
      exact (nb (hq_sdq ha hb h1) (hq_sdq ha hb h2) (opp hc) h1 h2).p
    · cases hx
theorem clN_bq {n:Nat} {a b:Q2} {l:List Q2} {K:Nat} (hn:l.length=n) (ha:hp 3 a) (hb:hp 3 b) (h:bq K l):∀{i:Nat},i≤n→bq (9*K+72) (clN n a b l i)
  |0,_=>fun x hx=>by cases hx
  |i+1,hi=>fun x hx=>by
    unfold clN at hx
    rcases List.mem_append.1 hx with hx|hx
    · exact clN_bq hn ha hb h (i:=i) (by omega) x hx
    · exact clA_bq ha hb (bq_at h (by omega)) (bq_at h (by rw [hn];exact Nat.mod_lt _ (by omega))) x hx
theorem clL_bq {a b:Q2} {l:List Q2} {K:Nat} (ha:hp 3 a) (hb:hp 3 b) (h:bq K l):bq (9*K+72) (clL a b l):=clN_bq rfl ha hb h (Nat.le_refl _)
theorem clA_yes {a b q r:Q2} (h:0≤sgq (sdq a b q)) (h2:sgq (sdq a b q)*sgq (sdq a b r)<0):clA a b q r=[q,ptq (sdq a b q) (sdq a b r) q r]:=by unfold clA;rw [if_pos h,if_pos h2];rfl
theorem clA_in {a b q r:Q2} (h:0≤sgq (sdq a b q)) (h2:¬sgq (sdq a b q)*sgq (sdq a b r)<0):clA a b q r=[q]:=by unfold clA;rw [if_pos h,if_neg h2];rfl
theorem clA_new {a b q r:Q2} (h:¬0≤sgq (sdq a b q)) (h2:sgq (sdq a b q)*sgq (sdq a b r)<0):clA a b q r=[ptq (sdq a b q) (sdq a b r) q r]:=by unfold clA;rw [if_neg h,if_pos h2];rfl
theorem clA_no {a b q r:Q2} (h:¬0≤sgq (sdq a b q)) (h2:¬sgq (sdq a b q)*sgq (sdq a b r)<0):clA a b q r=[]:=by unfold clA;rw [if_neg h,if_neg h2];rfl
def pq (x y:Int):Q2:=((x:Rat),(y:Rat))
theorem hp_pq {x y:Int} (hx: -9223372036854775808≤x∧x≤9223372036854775807) (hy: -9223372036854775808≤y∧y≤9223372036854775807):hp 3 (pq x y):=⟨hq_64 hx.1 hx.2,hq_64 hy.1 hy.2⟩
def pts (l:List P2):List Q2:=l.map (fun p=>pq p.1 p.2)
def win (l:List P2) (a b:P2):List Q2:=clL (pq 1 b.2) (pq 0 b.2) (clL (pq 0 a.2) (pq 1 a.2) (clL (pq b.1 0) (pq b.1 1) (clL (pq a.1 1) (pq a.1 0) (pts l))))
def wnC (l:List P2) (a b:P2):Int:=if ck l≠0 then ck l else if ¬(inR a∧inR b) then 2 else if b.1≤a.1∨b.2≤a.2 then 5 else 0
def wnV (l:List P2) (a b:P2):List Q2:=if wnC l a b≠0 then [] else win l a b
theorem wn_bad {l:List P2} {a b:P2} (h:ck l≠0):wnC l a b=ck l∧wnV l a b=[]:=by
  have h1:wnC l a b=ck l:=by unfold wnC;rw [if_pos h]
  exact ⟨h1,by unfold wnV;rw [h1,if_pos h]⟩
theorem wn_far {l:List P2} {a b:P2} (h:ck l=0) (h2:¬(inR a∧inR b)):wnC l a b=2∧wnV l a b=[]:=by
  have h1:wnC l a b=2:=by unfold wnC;rw [if_neg (fun k=>k h),if_pos h2]
  exact ⟨h1,by unfold wnV;rw [h1,if_pos (by decide)]⟩
theorem wn_ord {l:List P2} {a b:P2} (h:ck l=0) (h2:inR a∧inR b) (h3:b.1≤a.1∨b.2≤a.2):wnC l a b=5∧wnV l a b=[]:=by
  have h1:wnC l a b=5:=by unfold wnC;rw [if_neg (fun k=>k h),if_neg (fun k=>k h2),if_pos h3]
  exact ⟨h1,by unfold wnV;rw [h1,if_pos (by decide)]⟩
theorem wn_ok {l:List P2} {a b:P2} (h:ck l=0) (h2:inR a∧inR b) (h3:¬(b.1≤a.1∨b.2≤a.2)):wnC l a b=0∧wnV l a b=win l a b:=by
  have h1:wnC l a b=0:=by unfold wnC;rw [if_neg (fun k=>k h),if_neg (fun k=>k h2),if_neg h3]
  exact ⟨h1,by unfold wnV;rw [h1,if_neg (by decide)]⟩
theorem pts_bq {l:List P2} (h:∀x∈l,inR x):bq 3 (pts l):=fun x hx=>by
  unfold pts at hx
  obtain ⟨p,hp,e⟩:=List.mem_map.1 hx
  have:=h p hp
  unfold inR at this
  rw [← e]
  exact hp_pq (by omega) (by omega)
theorem pts_take {l:List P2} {i:Nat} (h:i<l.length):pts (l.take (i+1))=pts (l.take i)++[pq (l.getD i (0,0)).1 (l.getD i (0,0)).2]:=by
  unfold pts;rw [Ms.take_snoc (0,0) h,List.map_append];rfl
def szT (n:Nat) (l:List Q2) (i:Nat):Rat:=prq (gq l i) (gq l ((i+1)%n))
def szN (n:Nat) (l:List Q2):Nat→Rat
  |0=>0
  |i+1=>szN n l i+szT n l i
def sz (l:List Q2):Rat:=szN l.length l l.length
theorem d01:Rat.divInt 0 1=0:=by decide
def exA:List P2:=[(0,0),(4,0),(4,4),(2,1),(0,4)]
def exB:List P2:=[(0,0),(4,0),(4,4),(0,4)]
theorem ex1:arV exA=20∧arC exA=0:=by decide +kernel
theorem ex2:isV exA (1,1)=1∧isC exA (1,1)=0:=by decide +kernel
theorem ex3:isV exA (2,2)= -1∧isC exA (2,2)=0:=by decide +kernel
theorem ex4:erV exA=[(1,2,3),(0,1,3),(0,3,4)]∧erC exA=0:=by decide +kernel
theorem ex5:wnC exB (2,-1) (9,2)=0:=by decide +kernel
def exW:List Q2:=wnV exB (2,-1) (9,2)
theorem ex6:bq 100 exW:=by decide +kernel
theorem ex7:∀i,i≤exW.length→hq (szN exW.length exW i)≤500000:=by decide +kernel
theorem ex8:sz exW=((8:Int):Rat):=by decide +kernel
end Go.Proofs.YtjcpbhlijoigfaaGreat.Pg
namespace Go.Proofs.YtjcpbhlijoigfaaGreat.Pg
open Big
set_option linter.unusedVariables false
theorem ln20 {z:Int} (h: -295147905179352825856≤z∧z≤295147905179352825856):ln z≤3:=by
  have e:pw 3=1000000000000000000000000000:=by decide
  exact zXf (by rw [e];omega) (by rw [e];omega)
theorem cnX_r {l:List P2} {n:Nat} (hn:l.length=n) (h:∀x∈l,inR x) (h64:n≤64) {i:Nat} (hi:i≤n): -295147905179352825856≤cnX n l i∧cnX n l i≤295147905179352825856:=by
  have:=cnX_b hn h hi;omega
theorem cnY_r {l:List P2} {n:Nat} (hn:l.length=n) (h:∀x∈l,inR x) (h64:n≤64) {i:Nat} (hi:i≤n): -295147905179352825856≤cnY n l i∧cnY n l i≤295147905179352825856:=by
  have:=cnY_b hn h hi;omega
theorem hq20 {z:Int} (h: -295147905179352825856≤z∧z≤295147905179352825856):hq (z:Rat)≤3:=by
  have h1:=hq_int z
  have h2:=ln20 h
  omega
theorem di1 (z:Int):Rat.divInt z 1=(z:Rat):=by
  rw [Rat.divInt_eq_div]
  have:((1:Int):Rat)=1:=rfl
  rw [this];grind
theorem cq_step (z c s:Int):(z:Rat)+Rat.divInt c 1*Rat.divInt s 1=((z+c*s:Int):Rat):=by
  rw [di1,di1,Rat.intCast_add,Rat.intCast_mul]
theorem cq_fin (z a:Int):(z:Rat)*Rat.divInt 1 a=Rat.divInt z a:=by
  rw [← di1,Rat.divInt_mul_divInt,Int.mul_one,Int.one_mul]
def cnV (l:List P2):Q2:=(Rat.divInt (cnX l.length l l.length) (3*db l),Rat.divInt (cnY l.length l l.length) (3*db l))
def tdO (l:List P2):List P2:=if ck l≠0 then [] else tdV l
theorem tdO_bad {l:List P2} (h:ck l≠0):tdO l=[]:=if_pos h
theorem tdO_ok {l:List P2} (h:ck l=0):tdO l=tdV l:=if_neg fun k=>k h
theorem tdV_in {l:List P2} (h:∀x∈l,inR x):∀x∈tdV l,inR x:=fun x hx=>h x ((td_sub l.length rfl).2 x hx)
def er' (l:List P2) (k j:Nat):List P2:=(l.take j).eraseIdx k
theorem er_len {l:List P2} {k j:Nat} (hk:k<l.length) (hj:j≤l.length):(er' l k j).length≤j:=by
  unfold er'
  refine Nat.le_trans (List.length_eraseIdx_le ..) ?_
  rw [List.length_take];omega
theorem er_ne {l:List P2} {k j:Nat} (hj:j<l.length) (h:j≠k):er' l k (j+1)=er' l k j++[gt l j]:=by
  unfold er'
  rw [Ms.take_snoc (0,0) hj]
  have hl:(l.take j).length=j:=by rw [List.length_take];omega
  by_cases c:k<j
  · rw [List.eraseIdx_append_of_lt_length (by omega)]
  · rw [List.eraseIdx_of_length_le (by rw [List.length_append,hl];simp;omega),List.eraseIdx_of_length_le (by omega)]
theorem er_eq {l:List P2} {k:Nat} (hk:k<l.length):er' l k (k+1)=er' l k k:=by
  unfold er'
  have hl:(l.take k).length=k:=by rw [List.length_take];omega
  rw [Ms.take_snoc (0,0) hk,List.eraseIdx_append_of_length_le (by omega),hl,Nat.sub_self,List.eraseIdx_of_length_le (l:=l.take k) (by omega)]
  simp
theorem er_all {l:List P2} {k j:Nat} (hj:l.length≤j):er' l k j=l.eraseIdx k:=by unfold er';rw [List.take_of_length_le hj]
theorem er_in {l:List P2} {k:Nat} (h:∀x∈l,inR x):∀x∈l.eraseIdx k,inR x:=fun x hx=>h x (List.mem_of_mem_eraseIdx hx)
theorem st_n {l:List P2} {n:Nat} (hn:l.length=n) (i:Nat):st l i↔crs (gt l ((i+n - 1)%n)) (gt l i) (gt l ((i+1)%n))=0:=by subst hn;exact Iff.rfl
theorem tr3_n {l:List P2} {n:Nat} (hn:l.length=n) (i:Nat):tr3 l i=crs (gt l i) (gt l ((i+1)%n)) (gt l ((i+2)%n)):=by subst hn;rfl
theorem ln_p {a b:Int} (ha: -9223372036854775808≤a∧a≤9223372036854775807) (hb: -9223372036854775808≤b∧b≤9223372036854775807):ln (a*b)≤6:=by
  have h1:=zHa a b
  have h2:=zNd ha.1 ha.2
  have h3:=zNd hb.1 hb.2
  omega
theorem ln_1 {a:Int} (ha: -9223372036854775808≤a∧a≤9223372036854775807):ln a≤3:=zNd ha.1 ha.2
theorem hq_mm {a b:Int} (ha: -9223372036854775808≤a∧a≤9223372036854775807) (hb: -9223372036854775808≤b∧b≤9223372036854775807):hq (Rat.divInt a 1)+hq (Rat.divInt b 1)+1≤1000:=by
  rw [di1,di1]
  have h2:=hq_64 ha.1 ha.2
  have h3:=hq_64 hb.1 hb.2
  omega
theorem hq_ma {z a b:Int} (hz: -295147905179352825856≤z∧z≤295147905179352825856) (ha: -9223372036854775808≤a∧a≤9223372036854775807) (hb: -9223372036854775808≤b∧b≤9223372036854775807):hq (z:Rat)+hq (Rat.divInt a 1*Rat.divInt b 1)+1≤1000:=by
  rw [di1,di1]
  have h1:=hq20 hz
  have h2:=hq_64 ha.1 ha.2
  have h3:=hq_64 hb.1 hb.2
  have h4:=hq_mul (a:Rat) (b:Rat)
  omega
theorem hq_mf {z a:Int} (hz: -295147905179352825856≤z∧z≤295147905179352825856) (h0:a≠0) (ha: -9223372036854775808≤a∧a≤9223372036854775807):hq (z:Rat)+hq (Rat.divInt 1 a)+1≤1000:=by
  have h1:=hq20 hz
  have h2:=hq_divInt (n:=1) h0
  have h3:=zNd ha.1 ha.2
  have h4:ln 1=1:=by decide
  omega
theorem hq_cn {z a:Int} (hz: -295147905179352825856≤z∧z≤295147905179352825856) (h0:a≠0) (ha: -9223372036854775808≤a∧a≤9223372036854775807):hq (Rat.divInt z a)≤3:=by
  have h1:=ln20 hz
  have h2:=hq_divInt (n:=z) h0
  have h3:=zNd ha.1 ha.2
  omega
def cnO (l:List P2):Q2:=if ck l=0 then cnV l else (0,0)
def cnB (l:List P2):Bool:=decide (ck l=0)
theorem cnO_ok {l:List P2} (h:ck l=0):cnO l=cnV l:=if_pos h
theorem cnO_bad {l:List P2} (h:ck l≠0):cnO l=(0,0):=if_neg h
theorem cnB_ok {l:List P2} (h:ck l=0):cnB l=true:=decide_eq_true h
theorem cnB_bad {l:List P2} (h:ck l≠0):cnB l=false:=decide_eq_false h
theorem cnV_n {l:List P2} {n:Nat} (hn:l.length=n):cnV l=(Rat.divInt (cnX n l n) (3*db l),Rat.divInt (cnY n l n) (3*db l)):=by subst hn;rfl
theorem cnV_hp {l:List P2} {n:Nat} (hn:l.length=n) (h:∀x∈l,inR x) (h64:n≤64) (hd:db l≠0):hp 3 (cnV l):=by
  have h1:=dbN_b hn h (i:=n) (Nat.le_refl _)
  have h2:db l=dbN n l n:=by rw [db,hn]
  rw [cnV_n hn]
  exact ⟨hq_cn (cnX_r hn h h64 (Nat.le_refl _)) (by omega) (by omega),hq_cn (cnY_r hn h h64 (Nat.le_refl _)) (by omega) (by omega)⟩
end Go.Proofs.YtjcpbhlijoigfaaGreat.Pg
namespace Go.Proofs.YtjcpbhlijoigfaaGreat.Sp
open Go
set_option linter.unusedVariables false
set_option maxRecDepth 100000
set_option maxHeartbeats 8000000
theorem zmc {ex:Int} {ey:Int} (hwex: -9223372036854775808≤ex∧ex≤9223372036854775807) (hwey: -9223372036854775808≤ey∧ey≤9223372036854775807):Con yb 46 [.agg #[.int .i64 ex,.int .i64 ey]] [] [] (Y:=Unit) (fun y=>True) (fun y=> .bool (Pg.far (ex,ey))) (fun y=>[]) (fun y=>[]):=by
 refine zm Tryz.func46 rfl rfl rfl (fun c=> ?_)
 show RunC _ _ _ _ _ [(0,.agg #[.int .i64 ex,.int .i64 ey])] [] []
 refine zg<|za<|zM rfl rfl (zR rfl rfl) (fun b1=> ?_)
 refine e_p (zb rfl)<|zh<|zd<|zEa (X:=Unit) (fun x=>True) (fun x=>[(2,.bool (decide ((((ex<(-0x100000))∨(0x100000<ex))∨(ey<(-0x100000)))∨(0x100000<ey))))]) (fun x=>[boxA b1 30 [.int .i64 ex,.int .i64 ey]]) (fun x=>[]) ?_ ?_
 ·
  refine za<|e_p (ze ya rfl sz3 rfl rfl)<|e_ru (zf 0 ty3 rfl rfl rfl)<|e_p (zY rfl rfl)<|zaa rfl rfl (zX rfl) (fun h2=> ?_) (fun h2=> ?_)
  ·
   refine e_no<|e_no<|e_no<|e_p (zo rfl rfl)<|e_mv rfl<|e_no<|e_no<|e_no<|e_p (zo rfl rfl)<|e_mv rfl<|e_no<|e_no<|e_no<|e_p (zo rfl rfl)<|e_p (zb rfl)<|zh ?_
   exact zga () (show True from by first|trivial|omega|simp_all) ((.e rfl (congrArg Value.bool cbu) .n):SubM _ _) (ho:=((.c (i:=0) rfl .n):PickO _ _ _)) (.n:SelR _ _ _)
  ·
   refine e_p (ze ya rfl sz3 rfl rfl)<|e_ru (zf 0 ty3 rfl rfl rfl)<|e_p (zAa rfl rfl)<|e_p (zo rfl rfl)<|zaa rfl rfl (zX rfl) (fun h3=> ?_) (fun h3=> ?_)
   ·
    refine e_no<|e_no<|e_no<|e_p (zo rfl rfl)<|e_mv rfl<|e_no<|e_no<|e_no<|e_p (zo rfl rfl)<|e_p (zb rfl)<|zh ?_
    exact zga () (show True from by first|trivial|omega|simp_all) ((.e rfl (congrArg Value.bool cbu) .n):SubM _ _) (ho:=((.c (i:=0) rfl .n):PickO _ _ _)) (.n:SelR _ _ _)
   ·
    refine e_p (ze ya rfl sz3 rfl rfl)<|e_ru (zf 0 ty3 rfl rfl rfl)<|e_p (zY rfl rfl)<|e_p (zo rfl rfl)<|zaa rfl rfl (zX rfl) (fun h4=> ?_) (fun h4=> ?_)
    ·
     refine e_no<|e_no<|e_no<|e_p (zo rfl rfl)<|e_p (zb rfl)<|zh ?_
     exact zga () (show True from by first|trivial|omega|simp_all) ((.e rfl (congrArg Value.bool cbu) .n):SubM _ _) (ho:=((.c (i:=0) rfl .n):PickO _ _ _)) (.n:SelR _ _ _)
    ·
     refine e_p (ze ya rfl sz3 rfl rfl)<|e_ru (zf 0 ty3 rfl rfl rfl)<|e_p (zAa rfl rfl)<|e_p (zo rfl rfl)<|e_p (zb rfl)<|zh ?_
     exact zga () (show True from by first|trivial|omega|simp_all) ((.e rfl (congrArg Value.bool cbu) .n):SubM _ _) (ho:=((.c (i:=0) rfl .n):PickO _ _ _)) (.n:SelR _ _ _)
 ·
  rintro ⟨⟩ -
  try dsimp only
  refine zH ?_
  exact zy Tryz.results46 () trivial (zl rfl) (congrArg Value.bool (by first|rfl|(simp [Pg.far,Pg.inR];omega)|(rw [Bool.eq_iff_iff,decide_eq_true_iff];simp [Pg.far,Pg.inR];omega))) (ho:=(.n:PickO _ _ _)) (.n:SelR _ _ _)
theorem zBe {ex:Int} {ey:Int} (hwex: -9223372036854775808≤ex∧ex≤9223372036854775807) (hwey: -9223372036854775808≤ey∧ey≤9223372036854775807):Con yb 48 [.agg #[.int .i64 ex,.int .i64 ey]] [] [] (Y:=Unit) (fun y=>True) (fun y=> .bool (decide (Pg.inR (ex,ey)))) (fun y=>[]) (fun y=>[]):=by
 refine zm Tryz.func48 rfl rfl rfl (fun c=> ?_)
 show RunC _ _ _ _ _ [(0,.agg #[.int .i64 ex,.int .i64 ey])] [] []
 refine zg<|za<|zM rfl rfl (zR rfl rfl) (fun b1=> ?_)
 refine e_p (zb rfl)<|zh<|zd<|zEa (X:=Unit) (fun x=>True) (fun x=>[(2,.bool (decide (((((-0x100000)≤ex)∧(ex≤0x100000))∧((-0x100000)≤ey))∧(ey≤0x100000))))]) (fun x=>[boxA b1 30 [.int .i64 ex,.int .i64 ey]]) (fun x=>[]) ?_ ?_
 ·
  refine za<|e_p (ze ya rfl sz3 rfl rfl)<|e_ru (zf 0 ty3 rfl rfl rfl)<|e_p (zJa rfl rfl)<|zaa rfl rfl (zX rfl) (fun h2=> ?_) (fun h2=> ?_)
  ·
   refine e_p (ze ya rfl sz3 rfl rfl)<|e_ru (zf 0 ty3 rfl rfl rfl)<|e_p (zVa rfl rfl)<|e_p (zo rfl rfl)<|zaa rfl rfl (zX rfl) (fun h3=> ?_) (fun h3=> ?_)
   ·
    refine e_p (ze ya rfl sz3 rfl rfl)<|e_ru (zf 0 ty3 rfl rfl rfl)<|e_p (zJa rfl rfl)<|e_p (zo rfl rfl)<|zaa rfl rfl (zX rfl) (fun h4=> ?_) (fun h4=> ?_)
    ·
     refine e_p (ze ya rfl sz3 rfl rfl)<|e_ru (zf 0 ty3 rfl rfl rfl)<|e_p (zVa rfl rfl)<|e_p (zo rfl rfl)<|e_p (zb rfl)<|zh ?_
     exact zga () (show True from by first|trivial|omega|simp_all) ((.e rfl (congrArg Value.bool cbu) .n):SubM _ _) (ho:=((.c (i:=0) rfl .n):PickO _ _ _)) (.n:SelR _ _ _)
    ·
     refine e_no<|e_no<|e_no<|e_p (zo rfl rfl)<|e_p (zb rfl)<|zh ?_
     exact zga () (show True from by first|trivial|omega|simp_all) ((.e rfl (congrArg Value.bool cbu) .n):SubM _ _) (ho:=((.c (i:=0) rfl .n):PickO _ _ _)) (.n:SelR _ _ _)
   ·
    refine e_no<|e_no<|e_no<|e_p (zo rfl rfl)<|e_mv rfl<|e_no<|e_no<|e_no<|e_p (zo rfl rfl)<|e_p (zb rfl)<|zh ?_
    exact zga () (show True from by first|trivial|omega|simp_all) ((.e rfl (congrArg Value.bool cbu) .n):SubM _ _) (ho:=((.c (i:=0) rfl .n):PickO _ _ _)) (.n:SelR _ _ _)
  ·
   refine e_no<|e_no<|e_no<|e_p (zo rfl rfl)<|e_mv rfl<|e_no<|e_no<|e_no<|e_p (zo rfl rfl)<|e_mv rfl<|e_no<|e_no<|e_no<|e_p (zo rfl rfl)<|e_p (zb rfl)<|zh ?_
   exact zga () (show True from by first|trivial|omega|simp_all) ((.e rfl (congrArg Value.bool cbu) .n):SubM _ _) (ho:=((.c (i:=0) rfl .n):PickO _ _ _)) (.n:SelR _ _ _)
 ·
  rintro ⟨⟩ -
  try dsimp only
  refine zH ?_
  exact zy Tryz.results48 () trivial (zl rfl) (congrArg Value.bool (by first|rfl|(rw [Bool.eq_iff_iff,decide_eq_true_iff,decide_eq_true_iff];unfold Pg.inR;dsimp only;omega)|(simp [Pg.inR,and_assoc];done))) (ho:=(.n:PickO _ _ _)) (.n:SelR _ _ _)
theorem zdb {ex:Int} {ey:Int} {fx:Int} {fy:Int} {gx:Int} {gy:Int} (hre:Pg.inR (ex,ey)) (hrf:Pg.inR (fx,fy)) (hrg:Pg.inR (gx,gy)):Con yb 54 [.agg #[.int .i64 ex,.int .i64 ey],.agg #[.int .i64 fx,.int .i64 fy],.agg #[.int .i64 gx,.int .i64 gy]] [] [] (Y:=Unit) (fun y=>True) (fun y=> .int .i64 ((Pg.crs (ex,ey) (fx,fy) (gx,gy)).sign)) (fun y=>[]) (fun y=>[]):=by
 refine zm Tryz.func54 rfl rfl rfl (fun c=> ?_)
 show RunC _ _ _ _ _ [(0,.agg #[.int .i64 ex,.int .i64 ey]),(1,.agg #[.int .i64 fx,.int .i64 fy]),(2,.agg #[.int .i64 gx,.int .i64 gy])] [] []
 have hue:(-1048576≤ex∧ex≤1048576)∧(-1048576≤ey∧ey≤1048576):=hre
 have huf:(-1048576≤fx∧fx≤1048576)∧(-1048576≤fy∧fy≤1048576):=hrf
 have hug:(-1048576≤gx∧gx≤1048576)∧(-1048576≤gy∧gy≤1048576):=hrg
 obtain ⟨hk1,hk2,hk3⟩:=Pg.cb hre hrf hrg
 dsimp only [Pg.crs] at hk1 hk2 hk3
 refine zg<|za<|zM rfl rfl (zR rfl rfl) (fun b1=> ?_)
 refine zM rfl rfl (zR rfl rfl) (fun b2=> ?_)
 refine zM rfl rfl (zR rfl rfl) (fun b3=> ?_)
 refine e_p (zb rfl)<|zh<|zd<|zg<|za<|e_p (ze ya rfl sz3 rfl rfl)<|e_ru (zf 1 ty3 rfl rfl rfl)<|e_p (ze ya rfl sz3 rfl rfl)<|e_ru (zf 2 ty3 rfl rfl rfl)<|e_p (zla (z:=(fx - ex)) rfl rfl (w64 om))<|e_p (ze ya rfl sz3 rfl rfl)<|e_ru (zf 0 ty3 rfl rfl rfl)<|e_p (ze ya rfl sz3 rfl rfl)<|e_ru (zf 2 ty3 rfl rfl rfl)<|e_p (zla (z:=(gy - ey)) rfl rfl (w64 om))<|e_p (zya (z:=((fx - ex)*(gy - ey))) rfl rfl (w64 om))<|e_p (ze ya rfl sz3 rfl rfl)<|e_ru (zf 1 ty3 rfl rfl rfl)<|e_p (ze ya rfl sz3 rfl rfl)<|e_ru (zf 2 ty3 rfl rfl rfl)<|e_p (zla (z:=(fy - ey)) rfl rfl (w64 om))<|e_p (ze ya rfl sz3 rfl rfl)<|e_ru (zf 0 ty3 rfl rfl rfl)<|e_p (ze ya rfl sz3 rfl rfl)<|e_ru (zf 2 ty3 rfl rfl rfl)<|e_p (zla (z:=(gx - ex)) rfl rfl (w64 om))<|e_p (zya (z:=((fy - ey)*(gx - ex))) rfl rfl (w64 om))<|e_p (zla (z:=(((fx - ex)*(gy - ey)) - ((fy - ey)*(gx - ex)))) rfl rfl (w64 om))<|e_p (zb rfl)<|zh<|zd<|zg<|zB<|zg<|za<|e_mv rfl<|e_p (zAa rfl rfl)<|e_p (zb rfl)<|zh<|zd<|zC rfl (fun hpos=> ?_) (fun hpos=> ?_)
 ·
  refine zg<|za<|e_p (zb rfl)<|zh<|zd<|zH<|zp<|zi ?_
  exact zy Tryz.results54 () trivial (zl rfl) (congrArg (Value.int .i64) (Int.sign_eq_one_of_pos (a:=Pg.crs (ex,ey) (fx,fy) (gx,gy)) (by dsimp only [Pg.crs];omega))) (ho:=(.n:PickO _ _ _)) (.n:SelR _ _ _)
 ·
  refine zg<|za<|e_mv rfl<|e_p (zY rfl rfl)<|e_p (zb rfl)<|zh<|zd<|zC rfl (fun hneg=> ?_) (fun hneg=> ?_)
  ·
   refine zg<|za<|e_p (zb rfl)<|zh<|zd<|zH<|zp<|zi ?_
   exact zy Tryz.results54 () trivial (zl rfl) (congrArg (Value.int .i64) (Int.sign_eq_neg_one_of_neg (a:=Pg.crs (ex,ey) (fx,fy) (gx,gy)) (by dsimp only [Pg.crs];omega))) (ho:=(.n:PickO _ _ _)) (.n:SelR _ _ _)
  ·
   refine zA<|zO<|zd<|zg<|za<|e_p (zb rfl)<|zh<|zd<|zH ?_
   exact zy Tryz.results54 () trivial (zl rfl) (congrArg (Value.int .i64) (Int.sign_eq_zero_iff_zero.2 (show Pg.crs (ex,ey) (fx,fy) (gx,gy)=0 by dsimp only [Pg.crs];omega))) (ho:=(.n:PickO _ _ _)) (.n:SelR _ _ _)
theorem zsb {ex:Int} {ey:Int} {fx:Int} {fy:Int} {gx:Int} {gy:Int} (hre:Pg.inR (ex,ey)) (hrf:Pg.inR (fx,fy)) (hrg:Pg.inR (gx,gy)):Con yb 55 [.agg #[.int .i64 ex,.int .i64 ey],.agg #[.int .i64 fx,.int .i64 fy],.agg #[.int .i64 gx,.int .i64 gy]] [] [] (Y:=Unit) (fun y=>True) (fun y=> .int .i64 (Pg.crs (ex,ey) (fx,fy) (gx,gy))) (fun y=>[]) (fun y=>[]):=by
 refine zm Tryz.func55 rfl rfl rfl (fun c=> ?_)
 show RunC _ _ _ _ _ [(0,.agg #[.int .i64 ex,.int .i64 ey]),(1,.agg #[.int .i64 fx,.int .i64 fy]),(2,.agg #[.int .i64 gx,.int .i64 gy])] [] []
 have hue:(-1048576≤ex∧ex≤1048576)∧(-1048576≤ey∧ey≤1048576):=hre
 have huf:(-1048576≤fx∧fx≤1048576)∧(-1048576≤fy∧fy≤1048576):=hrf
 have hug:(-1048576≤gx∧gx≤1048576)∧(-1048576≤gy∧gy≤1048576):=hrg
 obtain ⟨hk1,hk2,hk3⟩:=Pg.cb hre hrf hrg
 dsimp only [Pg.crs] at hk1 hk2 hk3
 refine zg<|za<|zM rfl rfl (zR rfl rfl) (fun b1=> ?_)
 refine zM rfl rfl (zR rfl rfl) (fun b2=> ?_)
 refine zM rfl rfl (zR rfl rfl) (fun b3=> ?_)
 refine e_p (zb rfl)<|zh<|zd<|zg<|za<|e_p (ze ya rfl sz3 rfl rfl)<|e_ru (zf 1 ty3 rfl rfl rfl)<|e_p (ze ya rfl sz3 rfl rfl)<|e_ru (zf 2 ty3 rfl rfl rfl)<|e_p (zla (z:=(fx - ex)) rfl rfl (w64 om))<|e_p (ze ya rfl sz3 rfl rfl)<|e_ru (zf 0 ty3 rfl rfl rfl)<|e_p (ze ya rfl sz3 rfl rfl)<|e_ru (zf 2 ty3 rfl rfl rfl)<|e_p (zla (z:=(gy - ey)) rfl rfl (w64 om))<|e_p (zya (z:=((fx - ex)*(gy - ey))) rfl rfl (w64 om))<|e_p (ze ya rfl sz3 rfl rfl)<|e_ru (zf 1 ty3 rfl rfl rfl)<|e_p (ze ya rfl sz3 rfl rfl)<|e_ru (zf 2 ty3 rfl rfl rfl)<|e_p (zla (z:=(fy - ey)) rfl rfl (w64 om))<|e_p (ze ya rfl sz3 rfl rfl)<|e_ru (zf 0 ty3 rfl rfl rfl)<|e_p (ze ya rfl sz3 rfl rfl)<|e_ru (zf 2 ty3 rfl rfl rfl)<|e_p (zla (z:=(gx - ex)) rfl rfl (w64 om))<|e_p (zya (z:=((fy - ey)*(gx - ex))) rfl rfl (w64 om))<|e_p (zla (z:=(((fx - ex)*(gy - ey)) - ((fy - ey)*(gx - ex)))) rfl rfl (w64 om))<|e_p (zb rfl)<|zh<|zd<|zH ?_
 exact zy Tryz.results55 () trivial (zl rfl) rfl (ho:=(.n:PickO _ _ _)) (.n:SelR _ _ _)
theorem zxb {z:Int} (hz: -9223372036854775808≤z∧z≤9223372036854775807):Con yb 65 [.int .i64 z] [] [] (Y:=Unit) (fun y=>True) (fun y=> .int .i64 (z.sign)) (fun y=>[]) (fun y=>[]):=by
 refine zm Tryz.func65 rfl rfl rfl (fun c=> ?_)
 show RunC _ _ _ _ _ [(0,.int .i64 z)] [] []
 refine zg<|za<|e_p (zb rfl)<|zh<|zd<|zg<|zg<|za<|e_mv rfl<|e_p (zY rfl rfl)<|zh<|zd<|zC rfl (fun hneg=> ?_) (fun hneg=> ?_)
 ·
  refine zg<|za<|e_p (zb rfl)<|zh<|zd<|zH<|zi ?_
  exact zy Tryz.results65 () trivial (zl rfl) (congrArg (Value.int .i64) (Int.sign_eq_neg_one_of_neg hneg)) (ho:=(.n:PickO _ _ _)) (.n:SelR _ _ _)
 ·
  refine zA<|zd<|zg<|zg<|za<|e_mv rfl<|e_p (zAa rfl rfl)<|zh<|zd<|zC rfl (fun hpos=> ?_) (fun hpos=> ?_)
  ·
   refine zg<|za<|e_p (zb rfl)<|zh<|zd<|zH<|zi ?_
   exact zy Tryz.results65 () trivial (zl rfl) (congrArg (Value.int .i64) (Int.sign_eq_one_of_pos hpos)) (ho:=(.n:PickO _ _ _)) (.n:SelR _ _ _)
  ·
   refine zA<|zd<|zg<|za<|e_p (zb rfl)<|zh<|zd<|zH ?_
   exact zy Tryz.results65 () trivial (zl rfl) (congrArg (Value.int .i64) (Int.sign_eq_zero_iff_zero.2 (show z=0 by omega))) (ho:=(.n:PickO _ _ _)) (.n:SelR _ _ _)
theorem zag {ex:Int} {ey:Int} {fx:Int} {fy:Int} {gx:Int} {gy:Int}:Con yb 91 [.agg #[.int .i64 ex,.int .i64 ey],.agg #[.int .i64 fx,.int .i64 fy],.agg #[.int .i64 gx,.int .i64 gy]] [] [] (Y:=Unit) (fun y=>True) (fun y=> .bool (decide (Pg.betw (ex,ey) (fx,fy) (gx,gy)))) (fun y=>[]) (fun y=>[]):=by
 refine zm Tryz.func91 rfl rfl rfl (fun c=> ?_)
 show RunC _ _ _ _ _ [(0,.agg #[.int .i64 ex,.int .i64 ey]),(1,.agg #[.int .i64 fx,.int .i64 fy]),(2,.agg #[.int .i64 gx,.int .i64 gy])] [] []
 refine zg<|za<|zM rfl rfl (zR rfl rfl) (fun b1=> ?_)
 refine zM rfl rfl (zR rfl rfl) (fun b2=> ?_)
 refine zM rfl rfl (zR rfl rfl) (fun b3=> ?_)
 refine e_p (zb rfl)<|zh<|zd<|zEa (X:=Unit) (fun x=>True) (fun x=>[(6,.bool (decide (((((min ex fx)≤gx)∧(gx≤(max ex fx)))∧((min ey fy)≤gy))∧(gy≤(max ey fy)))))]) (fun x=>[boxA b3 30 [.int .i64 gx,.int .i64 gy],boxA b2 30 [.int .i64 fx,.int .i64 fy],boxA b1 30 [.int .i64 ex,.int .i64 ey]]) (fun x=>[]) ?_ ?_
 ·
  refine za<|e_p (ze ya rfl sz3 rfl rfl)<|e_ru (zf 2 ty3 rfl rfl rfl)<|e_p (ze ya rfl sz3 rfl rfl)<|e_ru (zf 1 ty3 rfl rfl rfl)<|e_p (zpg rfl rfl)<|e_p (ze ya rfl sz3 rfl rfl)<|e_ru (zf 0 ty3 rfl rfl rfl)<|e_p (zVa rfl rfl)<|zaa rfl rfl (zX rfl) (fun h4=> ?_) (fun h4=> ?_)
  ·
   refine e_p (ze ya rfl sz3 rfl rfl)<|e_ru (zf 0 ty3 rfl rfl rfl)<|e_p (ze ya rfl sz3 rfl rfl)<|e_ru (zf 2 ty3 rfl rfl rfl)<|e_p (ze ya rfl sz3 rfl rfl)<|e_ru (zf 1 ty3 rfl rfl rfl)<|e_p (zff rfl rfl)<|e_p (zVa rfl rfl)<|e_p (zo rfl rfl)<|zaa rfl rfl (zX rfl) (fun h5=> ?_) (fun h5=> ?_)
   ·
    refine e_p (ze ya rfl sz3 rfl rfl)<|e_ru (zf 2 ty3 rfl rfl rfl)<|e_p (ze ya rfl sz3 rfl rfl)<|e_ru (zf 1 ty3 rfl rfl rfl)<|e_p (zpg rfl rfl)<|e_p (ze ya rfl sz3 rfl rfl)<|e_ru (zf 0 ty3 rfl rfl rfl)<|e_p (zVa rfl rfl)<|e_p (zo rfl rfl)<|zaa rfl rfl (zX rfl) (fun h6=> ?_) (fun h6=> ?_)
    ·
     refine e_p (ze ya rfl sz3 rfl rfl)<|e_ru (zf 0 ty3 rfl rfl rfl)<|e_p (ze ya rfl sz3 rfl rfl)<|e_ru (zf 2 ty3 rfl rfl rfl)<|e_p (ze ya rfl sz3 rfl rfl)<|e_ru (zf 1 ty3 rfl rfl rfl)<|e_p (zff rfl rfl)<|e_p (zVa rfl rfl)<|e_p (zo rfl rfl)<|e_p (zb rfl)<|zh ?_
     exact zga () (show True from by first|trivial|omega|simp_all) ((.e rfl (congrArg Value.bool cbu) .n):SubM _ _) (ho:=((.of [0,0,0] rfl):PickO _ _ _)) (.n:SelR _ _ _)
    ·
     refine e_no<|e_no<|e_no<|e_no<|e_no<|e_no<|e_no<|e_no<|e_p (zo rfl rfl)<|e_p (zb rfl)<|zh ?_
     exact zga () (show True from by first|trivial|omega|simp_all) ((.e rfl (congrArg Value.bool cbu) .n):SubM _ _) (ho:=((.of [0,0,0] rfl):PickO _ _ _)) (.n:SelR _ _ _)
   ·
    refine e_no<|e_no<|e_no<|e_no<|e_no<|e_no<|e_no<|e_no<|e_p (zo rfl rfl)<|e_mv rfl<|e_no<|e_no<|e_no<|e_no<|e_no<|e_no<|e_no<|e_no<|e_p (zo rfl rfl)<|e_p (zb rfl)<|zh ?_
    exact zga () (show True from by first|trivial|omega|simp_all) ((.e rfl (congrArg Value.bool cbu) .n):SubM _ _) (ho:=((.of [0,0,0] rfl):PickO _ _ _)) (.n:SelR _ _ _)
  ·
   refine e_no<|e_no<|e_no<|e_no<|e_no<|e_no<|e_no<|e_no<|e_p (zo rfl rfl)<|e_mv rfl<|e_no<|e_no<|e_no<|e_no<|e_no<|e_no<|e_no<|e_no<|e_p (zo rfl rfl)<|e_mv rfl<|e_no<|e_no<|e_no<|e_no<|e_no<|e_no<|e_no<|e_no<|e_p (zo rfl rfl)<|e_p (zb rfl)<|zh ?_
   exact zga () (show True from by first|trivial|omega|simp_all) ((.e rfl (congrArg Value.bool cbu) .n):SubM _ _) (ho:=((.of [0,0,0] rfl):PickO _ _ _)) (.n:SelR _ _ _)
 ·
  rintro ⟨⟩ -
  try dsimp only
  refine zH ?_
  exact zy Tryz.results91 () trivial (zl rfl) (congrArg Value.bool (by first|rfl|(rw [Bool.eq_iff_iff,decide_eq_true_iff];simp [Pg.betw,and_assoc,or_assoc];done)|(rw [Bool.eq_iff_iff,decide_eq_true_iff];simp_all [Pg.betw]))) (ho:=(.n:PickO _ _ _)) (.n:SelR _ _ _)
theorem zwf {ex:Int} {ey:Int} {fx:Int}:Con yb 81 [.int .i64 ex,.int .i64 ey,.int .i64 fx] [] [] (Y:=Unit) (fun y=>True) (fun y=> .bool (decide (Pg.wi ex ey fx))) (fun y=>[]) (fun y=>[]):=by
 refine zm Tryz.func81 rfl rfl rfl (fun c=> ?_)
 show RunC _ _ _ _ _ [(0,.int .i64 ex),(1,.int .i64 ey),(2,.int .i64 fx)] [] []
 refine zg<|za<|e_p (zb rfl)<|zh<|zd<|zEa (X:=Unit) (fun x=>True) (fun x=>[(6,.bool (decide (((ex≤fx)∧(fx≤ey))∨((ey≤fx)∧(fx≤ex)))))]) (fun x=>[]) (fun x=>[]) ?_ ?_
 ·
  refine za<|e_mv rfl<|e_mv rfl<|e_p (zVa rfl rfl)<|zaa rfl rfl (zX rfl) (fun h1=> ?_) (fun h1=> ?_)
  ·
   refine e_mv rfl<|e_mv rfl<|e_p (zVa rfl rfl)<|e_p (zo rfl rfl)<|zaa rfl rfl (zX rfl) (fun h2=> ?_) (fun h2=> ?_)
   ·
    refine e_no<|e_no<|e_no<|e_no<|e_no<|e_no<|e_no<|e_no<|e_p (zo rfl rfl)<|e_p (zb rfl)<|zh ?_
    exact zga () (show True from by first|trivial|omega|simp_all) ((.e rfl (congrArg Value.bool cbu) .n):SubM _ _) (ho:=(.n:PickO _ _ _)) (.n:SelR _ _ _)
   ·
    refine e_mv rfl<|e_mv rfl<|e_p (zVa rfl rfl)<|zaa rfl rfl (zX rfl) (fun h3=> ?_) (fun h3=> ?_)
    ·
     refine e_mv rfl<|e_mv rfl<|e_p (zVa rfl rfl)<|e_p (zo rfl rfl)<|e_p (zo rfl rfl)<|e_p (zb rfl)<|zh ?_
     exact zga () (show True from by first|trivial|omega|simp_all) ((.e rfl (congrArg Value.bool cbu) .n):SubM _ _) (ho:=(.n:PickO _ _ _)) (.n:SelR _ _ _)
    ·
     refine e_no<|e_no<|e_no<|e_p (zo rfl rfl)<|e_p (zo rfl rfl)<|e_p (zb rfl)<|zh ?_
     exact zga () (show True from by first|trivial|omega|simp_all) ((.e rfl (congrArg Value.bool cbu) .n):SubM _ _) (ho:=(.n:PickO _ _ _)) (.n:SelR _ _ _)
  ·
   refine e_no<|e_no<|e_no<|e_p (zo rfl rfl)<|e_mv rfl<|e_mv rfl<|e_mv rfl<|e_p (zVa rfl rfl)<|zaa rfl rfl (zX rfl) (fun h4=> ?_) (fun h4=> ?_)
   ·
    refine e_mv rfl<|e_mv rfl<|e_p (zVa rfl rfl)<|e_p (zo rfl rfl)<|e_p (zo rfl rfl)<|e_p (zb rfl)<|zh ?_
    exact zga () (show True from by first|trivial|omega|simp_all) ((.e rfl (congrArg Value.bool cbu) .n):SubM _ _) (ho:=(.n:PickO _ _ _)) (.n:SelR _ _ _)
   ·
    refine e_no<|e_no<|e_no<|e_p (zo rfl rfl)<|e_p (zo rfl rfl)<|e_p (zb rfl)<|zh ?_
    exact zga () (show True from by first|trivial|omega|simp_all) ((.e rfl (congrArg Value.bool cbu) .n):SubM _ _) (ho:=(.n:PickO _ _ _)) (.n:SelR _ _ _)
 ·
  rintro ⟨⟩ -
  try dsimp only
  refine zH ?_
  exact zy Tryz.results81 () trivial (zl rfl) (congrArg Value.bool (by first|rfl|(simp [Pg.wi];done)|simp_all [Pg.wi])) (ho:=(.n:PickO _ _ _)) (.n:SelR _ _ _)
theorem zbc {ex:Int} {ey:Int} {fx:Int} {fy:Int} {gx:Int} {gy:Int} (hre:Pg.inR (ex,ey)) (hrf:Pg.inR (fx,fy)) (hrg:Pg.inR (gx,gy)):Con yb 50 [.agg #[.int .i64 ex,.int .i64 ey],.agg #[.int .i64 fx,.int .i64 fy],.agg #[.int .i64 gx,.int .i64 gy]] [] [] (Y:=Unit) (fun y=>True) (fun y=> .bool (decide (Pg.onS (ex,ey) (fx,fy) (gx,gy)))) (fun y=>[]) (fun y=>[]):=by
 refine zm Tryz.func50 rfl rfl rfl (fun c=> ?_)
 show RunC _ _ _ _ _ [(0,.agg #[.int .i64 ex,.int .i64 ey]),(1,.agg #[.int .i64 fx,.int .i64 fy]),(2,.agg #[.int .i64 gx,.int .i64 gy])] [] []
 refine zg<|za<|zM rfl rfl (zR rfl rfl) (fun b1=> ?_)
 refine zM rfl rfl (zR rfl rfl) (fun b2=> ?_)
 refine zM rfl rfl (zR rfl rfl) (fun b3=> ?_)
 refine e_p (zb rfl)<|zh<|zd<|zEa (X:=Unit) (fun x=>True) (fun x=>[(6,.bool (decide (((Pg.crs (ex,ey) (fx,fy) (gx,gy)).sign=0)∧(Pg.betw (ex,ey) (fx,fy) (gx,gy)))))]) (fun x=>[boxA b3 30 [.int .i64 gx,.int .i64 gy],boxA b2 30 [.int .i64 fx,.int .i64 fy],boxA b1 30 [.int .i64 ex,.int .i64 ey]]) (fun x=>[]) ?_ ?_
 ·
  refine za<|e_ru (zc 2 ty30 rfl rfl (.t2 .nil))<|e_ru (zc 1 ty30 rfl rfl (.t2 .nil))<|e_ru (zc 0 ty30 rfl rfl (.t2 .nil))<|zL rfl rfl (.c rfl (.c rfl (.c rfl .n))) ce54 (zdb (ex:=ex) (ey:=ey) (fx:=fx) (fy:=fy) (gx:=gx) (gy:=gy) (hre:=ass) (hrf:=ass) (hrg:=ass)) (.n)<|e_p (zua rfl rfl)<|zaa rfl rfl (zX rfl) (fun h4=> ?_) (fun h4=> ?_)
  ·
   refine e_ru (zc 2 ty30 rfl rfl (.t2 .nil))<|e_ru (zc 1 ty30 rfl rfl (.t2 .nil))<|e_ru (zc 0 ty30 rfl rfl (.t2 .nil))<|zL rfl rfl (.c rfl (.c rfl (.c rfl .n))) ce91 (zag (ex:=ex) (ey:=ey) (fx:=fx) (fy:=fy) (gx:=gx) (gy:=gy)) (.n)<|e_p (zo rfl rfl)<|e_p (zb rfl)<|zh ?_
   exact zga () (show True from by first|trivial|omega|simp_all) ((.e rfl (congrArg Value.bool cbu) .n):SubM _ _) (ho:=((.of [0,0,0] rfl):PickO _ _ _)) (.n:SelR _ _ _)
  ·
   refine e_no<|e_no<|e_no<|e_no<|e_p (zo rfl rfl)<|e_p (zb rfl)<|zh ?_
   exact zga () (show True from by first|trivial|omega|simp_all) ((.e rfl (congrArg Value.bool cbu) .n):SubM _ _) (ho:=((.of [0,0,0] rfl):PickO _ _ _)) (.n:SelR _ _ _)
 ·
  rintro ⟨⟩ -
  try dsimp only
  refine zH ?_
  exact zy Tryz.results50 () trivial (zl rfl) (congrArg Value.bool (by first|rfl|(rw [Bool.eq_iff_iff,decide_eq_true_iff];simp [Pg.onS,Int.sign_eq_zero_iff_zero,and_assoc,or_assoc];done)|(rw [Bool.eq_iff_iff,decide_eq_true_iff];simp_all [Pg.onS,Int.sign_eq_zero_iff_zero]))) (ho:=(.n:PickO _ _ _)) (.n:SelR _ _ _)
theorem zOb {ex:Int} {ey:Int} {fx:Int} {fy:Int} {gx:Int} {gy:Int} (hre:Pg.inR (ex,ey)) (hrf:Pg.inR (fx,fy)) (hrg:Pg.inR (gx,gy)):Con yb 35 [.agg #[.int .i64 ex,.int .i64 ey],.agg #[.int .i64 fx,.int .i64 fy],.agg #[.int .i64 gx,.int .i64 gy]] [] [] (Y:=Unit) (fun y=>True) (fun y=> .bool (decide (Pg.onS (ex,ey) (fx,fy) (gx,gy)))) (fun y=>[]) (fun y=>[]):=by
 refine zm Tryz.func35 rfl rfl rfl (fun c=> ?_)
 show RunC _ _ _ _ _ [(0,.agg #[.int .i64 ex,.int .i64 ey]),(1,.agg #[.int .i64 fx,.int .i64 fy]),(2,.agg #[.int .i64 gx,.int .i64 gy])] [] []
 refine zg<|za<|zM rfl rfl (zR rfl rfl) (fun b1=> ?_)
 refine zM rfl rfl (zR rfl rfl) (fun b2=> ?_)
 refine zM rfl rfl (zR rfl rfl) (fun b3=> ?_)
 refine e_p (zb rfl)<|zh<|zd<|zEa (X:=Unit) (fun x=>True) (fun x=>[(6,.bool (decide (((Pg.crs (ex,ey) (fx,fy) (gx,gy)=0)∧(Pg.wi ex fx gx))∧(Pg.wi ey fy gy))))]) (fun x=>[boxA b3 30 [.int .i64 gx,.int .i64 gy],boxA b2 30 [.int .i64 fx,.int .i64 fy],boxA b1 30 [.int .i64 ex,.int .i64 ey]]) (fun x=>[]) ?_ ?_
 ·
  refine za<|e_ru (zc 2 ty30 rfl rfl (.t2 .nil))<|e_ru (zc 1 ty30 rfl rfl (.t2 .nil))<|e_ru (zc 0 ty30 rfl rfl (.t2 .nil))<|zL rfl rfl (.c rfl (.c rfl (.c rfl .n))) ce55 (zsb (ex:=ex) (ey:=ey) (fx:=fx) (fy:=fy) (gx:=gx) (gy:=gy) (hre:=ass) (hrf:=ass) (hrg:=ass)) (.n)<|e_p (zua rfl rfl)<|zaa rfl rfl (zX rfl) (fun h4=> ?_) (fun h4=> ?_)
  ·
   refine e_p (ze ya rfl sz3 rfl rfl)<|e_ru (zf 2 ty3 rfl rfl rfl)<|e_p (ze ya rfl sz3 rfl rfl)<|e_ru (zf 1 ty3 rfl rfl rfl)<|e_p (ze ya rfl sz3 rfl rfl)<|e_ru (zf 0 ty3 rfl rfl rfl)<|zL rfl rfl (.c rfl (.c rfl (.c rfl .n))) ce81 (zwf (ex:=ex) (ey:=fx) (fx:=gx)) (.n)<|e_p (zo rfl rfl)<|zaa rfl rfl (zX rfl) (fun h5=> ?_) (fun h5=> ?_)
   ·
    refine e_p (ze ya rfl sz3 rfl rfl)<|e_ru (zf 2 ty3 rfl rfl rfl)<|e_p (ze ya rfl sz3 rfl rfl)<|e_ru (zf 1 ty3 rfl rfl rfl)<|e_p (ze ya rfl sz3 rfl rfl)<|e_ru (zf 0 ty3 rfl rfl rfl)<|zL rfl rfl (.c rfl (.c rfl (.c rfl .n))) ce81 (zwf (ex:=ey) (ey:=fy) (fx:=gy)) (.n)<|e_p (zo rfl rfl)<|e_p (zb rfl)<|zh ?_
    exact zga () (show True from by first|trivial|omega|simp_all) ((.e rfl (congrArg Value.bool cbu) .n):SubM _ _) (ho:=((.of [0,0,0] rfl):PickO _ _ _)) (.n:SelR _ _ _)
   ·
    refine e_no<|e_no<|e_no<|e_no<|e_no<|e_no<|e_no<|e_p (zo rfl rfl)<|e_p (zb rfl)<|zh ?_
    exact zga () (show True from by first|trivial|omega|simp_all) ((.e rfl (congrArg Value.bool cbu) .n):SubM _ _) (ho:=((.of [0,0,0] rfl):PickO _ _ _)) (.n:SelR _ _ _)
  ·
   refine e_no<|e_no<|e_no<|e_no<|e_no<|e_no<|e_no<|e_p (zo rfl rfl)<|e_mv rfl<|e_no<|e_no<|e_no<|e_no<|e_no<|e_no<|e_no<|e_p (zo rfl rfl)<|e_p (zb rfl)<|zh ?_
   exact zga () (show True from by first|trivial|omega|simp_all) ((.e rfl (congrArg Value.bool cbu) .n):SubM _ _) (ho:=((.of [0,0,0] rfl):PickO _ _ _)) (.n:SelR _ _ _)
 ·
  rintro ⟨⟩ -
  try dsimp only
  refine zH ?_
  exact zy Tryz.results35 () trivial (zl rfl) (congrArg Value.bool (by first|rfl|(rw [Bool.eq_iff_iff,decide_eq_true_iff];simp [Pg.onS,Pg.betw_wi,and_assoc,or_assoc];done)|(rw [Bool.eq_iff_iff,decide_eq_true_iff];simp_all [Pg.onS,Pg.betw_wi]))) (ho:=(.n:PickO _ _ _)) (.n:SelR _ _ _)
theorem zxf {ex:Int} {ey:Int} {fx:Int} {fy:Int}:Con yb 52 [.agg #[.int .i64 ex,.int .i64 ey],.agg #[.int .i64 fx,.int .i64 fy]] [] [] (Y:=Unit) (fun y=>True) (fun y=> .bool (decide ((ex,ey)=(fx,fy)))) (fun y=>[]) (fun y=>[]):=by
 refine zm Tryz.func52 rfl rfl rfl (fun c=> ?_)
 show RunC _ _ _ _ _ [(0,.agg #[.int .i64 ex,.int .i64 ey]),(1,.agg #[.int .i64 fx,.int .i64 fy])] [] []
 refine zg<|za<|zM rfl rfl (zR rfl rfl) (fun b1=> ?_)
 refine zM rfl rfl (zR rfl rfl) (fun b2=> ?_)
 refine e_p (zb rfl)<|zh<|zd<|zEa (X:=Unit) (fun x=>True) (fun x=>[(4,.bool (decide ((ex=fx)∧(ey=fy))))]) (fun x=>[boxA b2 30 [.int .i64 fx,.int .i64 fy],boxA b1 30 [.int .i64 ex,.int .i64 ey]]) (fun x=>[]) ?_ ?_
 ·
  refine za<|e_p (ze ya rfl sz3 rfl rfl)<|e_ru (zf 1 ty3 rfl rfl rfl)<|e_p (ze ya rfl sz3 rfl rfl)<|e_ru (zf 0 ty3 rfl rfl rfl)<|e_p (zua rfl rfl)<|zaa rfl rfl (zX rfl) (fun h3=> ?_) (fun h3=> ?_)
  ·
   refine e_p (ze ya rfl sz3 rfl rfl)<|e_ru (zf 1 ty3 rfl rfl rfl)<|e_p (ze ya rfl sz3 rfl rfl)<|e_ru (zf 0 ty3 rfl rfl rfl)<|e_p (zua rfl rfl)<|e_p (zo rfl rfl)<|e_p (zb rfl)<|zh ?_
   exact zga () (show True from by first|trivial|omega|simp_all) ((.e rfl (congrArg Value.bool cbu) .n):SubM _ _) (ho:=((.of [0,0] rfl):PickO _ _ _)) (.n:SelR _ _ _)
  ·
   refine e_no<|e_no<|e_no<|e_no<|e_no<|e_p (zo rfl rfl)<|e_p (zb rfl)<|zh ?_
   exact zga () (show True from by first|trivial|omega|simp_all) ((.e rfl (congrArg Value.bool cbu) .n):SubM _ _) (ho:=((.of [0,0] rfl):PickO _ _ _)) (.n:SelR _ _ _)
 ·
  rintro ⟨⟩ -
  try dsimp only
  refine zH ?_
  exact zy Tryz.results52 () trivial (zl rfl) (congrArg Value.bool (by first|rfl|(simp;done)|simp_all)) (ho:=(.n:PickO _ _ _)) (.n:SelR _ _ _)
theorem zyf {ex:Int} {ey:Int} {fx:Int} {fy:Int} {gx:Int} {gy:Int} {hx:Int} {hy:Int} (hre:Pg.inR (ex,ey)) (hrf:Pg.inR (fx,fy)) (hrg:Pg.inR (gx,gy)) (hrh:Pg.inR (hx,hy)):Con yb 51 [.agg #[.int .i64 ex,.int .i64 ey],.agg #[.int .i64 fx,.int .i64 fy],.agg #[.int .i64 gx,.int .i64 gy],.agg #[.int .i64 hx,.int .i64 hy]] [] [] (Y:=Unit) (fun y=>True) (fun y=> .bool (decide (Pg.mt (ex,ey) (fx,fy) (gx,gy) (hx,hy)))) (fun y=>[]) (fun y=>[]):=by
 refine zm Tryz.func51 rfl rfl rfl (fun c=> ?_)
 show RunC _ _ _ _ _ [(0,.agg #[.int .i64 ex,.int .i64 ey]),(1,.agg #[.int .i64 fx,.int .i64 fy]),(2,.agg #[.int .i64 gx,.int .i64 gy]),(3,.agg #[.int .i64 hx,.int .i64 hy])] [] []
 have hs0:=Pg.sgn_mul (Pg.crs (ex,ey) (fx,fy) (gx,gy)) (Pg.crs (ex,ey) (fx,fy) (hx,hy))
 have hs1:=Pg.sgn_mul (Pg.crs (gx,gy) (hx,hy) (ex,ey)) (Pg.crs (gx,gy) (hx,hy) (fx,fy))
 have hc0:=(Pg.cb hre hrf hrg).c
 have hc1:=(Pg.cb hre hrf hrh).c
 have hc2:=(Pg.cb hrg hrh hre).c
 have hc3:=(Pg.cb hrg hrh hrf).c
 refine zg<|za<|zM rfl rfl (zR rfl rfl) (fun b1=> ?_)
 refine zM rfl rfl (zR rfl rfl) (fun b2=> ?_)
 refine zM rfl rfl (zR rfl rfl) (fun b3=> ?_)
 refine zM rfl rfl (zR rfl rfl) (fun b4=> ?_)
 refine e_p (zb rfl)<|zh<|zd<|zg<|zEa (X:=Unit) (fun x=>True) (fun x=>[(30,.bool (decide ((((Pg.crs (ex,ey) (fx,fy) (gx,gy)).sign*(Pg.crs (ex,ey) (fx,fy) (hx,hy)).sign)<0)∧(((Pg.crs (gx,gy) (hx,hy) (ex,ey)).sign*(Pg.crs (gx,gy) (hx,hy) (fx,fy)).sign)<0)))),(8,.bool false),(7,.pointer (some ⟨b4,0,none⟩)),(6,.pointer (some ⟨b3,0,none⟩)),(5,.pointer (some ⟨b2,0,none⟩)),(4,.pointer (some ⟨b1,0,none⟩))]) (fun x=>[boxA b4 30 [.int .i64 hx,.int .i64 hy],boxA b3 30 [.int .i64 gx,.int .i64 gy],boxA b2 30 [.int .i64 fx,.int .i64 fy],boxA b1 30 [.int .i64 ex,.int .i64 ey]]) (fun x=>[]) ?_ ?_
 ·
  refine zW (OW:=[]) (O:=[boxA b4 30 [.int .i64 hx,.int .i64 hy],boxA b3 30 [.int .i64 gx,.int .i64 gy],boxA b2 30 [.int .i64 fx,.int .i64 fy],boxA b1 30 [.int .i64 ex,.int .i64 ey]]) 100000 mixed (.then (.then .ret)) kr<|e_u 0 rfl rfl (zc 3 ty30 rfl rfl (.t2 .nil))<|e_u 1 rfl rfl (zc 2 ty30 rfl rfl (.t2 .nil))<|e_u 2 rfl rfl (zc 1 ty30 rfl rfl (.t2 .nil))<|e_u 4 rfl rfl (zc 3 ty30 rfl rfl (.t2 .nil))<|e_u 5 rfl rfl (zc 2 ty30 rfl rfl (.t2 .nil))<|e_u 6 rfl rfl (zc 0 ty30 rfl rfl (.t2 .nil))<|e_one 3 (zpa rfl rfl rfl rfl (.c rfl (.c rfl (.c rfl .n))) ce54 (zdb (ex:=ex) (ey:=ey) (fx:=fx) (fy:=fy) (gx:=gx) (gy:=gy) (hre:=ass) (hrf:=ass) (hrg:=ass)) (.n) ?_)
  refine e_one 7 (zpa rfl rfl rfl rfl (.c rfl (.c rfl (.c rfl .n))) ce54 (zdb (ex:=ex) (ey:=ey) (fx:=fx) (fy:=fy) (gx:=hx) (gy:=hy) (hre:=ass) (hrf:=ass) (hrg:=ass)) (.n) ?_)
  refine e_pv 8 rfl rfl (zya (z:=((Pg.crs (ex,ey) (fx,fy) (gx,gy)).sign*(Pg.crs (ex,ey) (fx,fy) (hx,hy)).sign)) rfl rfl (w64 om))<|e_pv 9 rfl rfl (zY rfl rfl)<|zDb 10 rfl rfl kr kr rfl rfl (zX rfl) (fun h5=> ?_) (fun h5=> ?_)
  ·
   refine e_u 11 rfl rfl (zc 1 ty30 rfl rfl (.t2 .nil))<|e_u 12 rfl rfl (zc 0 ty30 rfl rfl (.t2 .nil))<|e_u 13 rfl rfl (zc 3 ty30 rfl rfl (.t2 .nil))<|e_u 15 rfl rfl (zc 1 ty30 rfl rfl (.t2 .nil))<|e_u 16 rfl rfl (zc 0 ty30 rfl rfl (.t2 .nil))<|e_u 17 rfl rfl (zc 2 ty30 rfl rfl (.t2 .nil))<|e_one 14 (zpa rfl rfl rfl rfl (.c rfl (.c rfl (.c rfl .n))) ce54 (zdb (ex:=gx) (ey:=gy) (fx:=hx) (fy:=hy) (gx:=ex) (gy:=ey) (hre:=ass) (hrf:=ass) (hrg:=ass)) (.n) ?_)
   refine e_one 18 (zpa rfl rfl rfl rfl (.c rfl (.c rfl (.c rfl .n))) ce54 (zdb (ex:=gx) (ey:=gy) (fx:=hx) (fy:=hy) (gx:=fx) (gy:=fy) (hre:=ass) (hrf:=ass) (hrg:=ass)) (.n) ?_)
   refine e_pv 19 rfl rfl (zya (z:=((Pg.crs (gx,gy) (hx,hy) (ex,ey)).sign*(Pg.crs (gx,gy) (hx,hy) (fx,fy)).sign)) rfl rfl (w64 om))<|e_pv 20 rfl rfl (zY rfl rfl)<|e_pv 21 rfl rfl (zo rfl rfl)<|zT kr ?_
   exact zga () (show True from by first|trivial|omega|simp_all) ((.e rfl (congrArg Value.bool cbu) (.of rfl)):SubM _ _) (ho:=((.of [0,0,0,0] rfl):PickO _ _ _)) (.n:SelR _ _ _)
  ·
   refine e_skip 11 rfl rfl<|e_skip 12 rfl rfl<|e_skip 13 rfl rfl<|e_skip 14 rfl rfl<|e_skip 15 rfl rfl<|e_skip 16 rfl rfl<|e_skip 17 rfl rfl<|e_skip 18 rfl rfl<|e_skip 19 rfl rfl<|e_skip 20 rfl rfl<|e_pv 21 rfl rfl (zo rfl rfl)<|zT kr ?_
   exact zga () (show True from by first|trivial|omega|simp_all) ((.e rfl (congrArg Value.bool cbu) (.of rfl)):SubM _ _) (ho:=((.of [0,0,0,0] rfl):PickO _ _ _)) (.n:SelR _ _ _)
 ·
  rintro ⟨⟩ -
  try dsimp only
  refine zC rfl (fun hm=> ?_) (fun hm=> ?_)
  ·
   refine zg<|za<|e_p (zb rfl)<|zh<|zd<|zH<|zi ?_
   exact zy Tryz.results51 () trivial (zl rfl) (congrArg Value.bool (decide_eq_true (Or.inl hm))) (ho:=(.n:PickO _ _ _)) (.n:SelR _ _ _)
  ·
   refine zA<|zd<|zEa (X:=Unit) (fun x=>True) (fun x=>[(8,.bool (decide ((((Pg.onS (ex,ey) (fx,fy) (gx,gy))∨(Pg.onS (ex,ey) (fx,fy) (hx,hy)))∨(Pg.onS (gx,gy) (hx,hy) (ex,ey)))∨(Pg.onS (gx,gy) (hx,hy) (fx,fy)))))]) (fun x=>[boxA b4 30 [.int .i64 hx,.int .i64 hy],boxA b3 30 [.int .i64 gx,.int .i64 gy],boxA b2 30 [.int .i64 fx,.int .i64 fy],boxA b1 30 [.int .i64 ex,.int .i64 ey]]) (fun x=>[]) ?_ ?_
   ·
    refine za<|e_ru (zc 3 ty30 rfl rfl (.t2 .nil))<|e_ru (zc 2 ty30 rfl rfl (.t2 .nil))<|e_ru (zc 1 ty30 rfl rfl (.t2 .nil))<|zL rfl rfl (.c rfl (.c rfl (.c rfl .n))) ce50 (zbc (ex:=ex) (ey:=ey) (fx:=fx) (fy:=fy) (gx:=gx) (gy:=gy) (hre:=ass) (hrf:=ass) (hrg:=ass)) (.n)<|zaa rfl rfl (zX rfl) (fun h6=> ?_) (fun h6=> ?_)
    ·
     refine e_no<|e_no<|e_no<|e_no<|e_p (zo rfl rfl)<|e_mv rfl<|e_no<|e_no<|e_no<|e_no<|e_p (zo rfl rfl)<|e_mv rfl<|e_no<|e_no<|e_no<|e_no<|e_p (zo rfl rfl)<|e_p (zb rfl)<|zh ?_
     exact zga () (show True from by first|trivial|omega|simp_all) ((.e rfl (congrArg Value.bool cbu) .n):SubM _ _) (ho:=((.of [0,0,0,0] rfl):PickO _ _ _)) (.n:SelR _ _ _)
    ·
     refine e_ru (zc 3 ty30 rfl rfl (.t2 .nil))<|e_ru (zc 2 ty30 rfl rfl (.t2 .nil))<|e_ru (zc 0 ty30 rfl rfl (.t2 .nil))<|zL rfl rfl (.c rfl (.c rfl (.c rfl .n))) ce50 (zbc (ex:=ex) (ey:=ey) (fx:=fx) (fy:=fy) (gx:=hx) (gy:=hy) (hre:=ass) (hrf:=ass) (hrg:=ass)) (.n)<|e_p (zo rfl rfl)<|zaa rfl rfl (zX rfl) (fun h7=> ?_) (fun h7=> ?_)
     ·
      refine e_no<|e_no<|e_no<|e_no<|e_p (zo rfl rfl)<|e_mv rfl<|e_no<|e_no<|e_no<|e_no<|e_p (zo rfl rfl)<|e_p (zb rfl)<|zh ?_
      exact zga () (show True from by first|trivial|omega|simp_all) ((.e rfl (congrArg Value.bool cbu) .n):SubM _ _) (ho:=((.of [0,0,0,0] rfl):PickO _ _ _)) (.n:SelR _ _ _)
     ·
      refine e_ru (zc 1 ty30 rfl rfl (.t2 .nil))<|e_ru (zc 0 ty30 rfl rfl (.t2 .nil))<|e_ru (zc 3 ty30 rfl rfl (.t2 .nil))<|zL rfl rfl (.c rfl (.c rfl (.c rfl .n))) ce50 (zbc (ex:=gx) (ey:=gy) (fx:=hx) (fy:=hy) (gx:=ex) (gy:=ey) (hre:=ass) (hrf:=ass) (hrg:=ass)) (.n)<|e_p (zo rfl rfl)<|zaa rfl rfl (zX rfl) (fun h8=> ?_) (fun h8=> ?_)
      ·
       refine e_no<|e_no<|e_no<|e_no<|e_p (zo rfl rfl)<|e_p (zb rfl)<|zh ?_
       exact zga () (show True from by first|trivial|omega|simp_all) ((.e rfl (congrArg Value.bool cbu) .n):SubM _ _) (ho:=((.of [0,0,0,0] rfl):PickO _ _ _)) (.n:SelR _ _ _)
      ·
       refine e_ru (zc 1 ty30 rfl rfl (.t2 .nil))<|e_ru (zc 0 ty30 rfl rfl (.t2 .nil))<|e_ru (zc 2 ty30 rfl rfl (.t2 .nil))<|zL rfl rfl (.c rfl (.c rfl (.c rfl .n))) ce50 (zbc (ex:=gx) (ey:=gy) (fx:=hx) (fy:=hy) (gx:=fx) (gy:=fy) (hre:=ass) (hrf:=ass) (hrg:=ass)) (.n)<|e_p (zo rfl rfl)<|e_p (zb rfl)<|zh ?_
       exact zga () (show True from by first|trivial|omega|simp_all) ((.e rfl (congrArg Value.bool cbu) .n):SubM _ _) (ho:=((.of [0,0,0,0] rfl):PickO _ _ _)) (.n:SelR _ _ _)
   ·
    rintro ⟨⟩ -
    try dsimp only
    refine zH ?_
    exact zy Tryz.results51 () trivial (zl rfl) (congrArg Value.bool (by rw [Bool.eq_iff_iff,decide_eq_true_iff];show Pg.mt0 _ _ _ _∨Pg.mt1 _ _ _ _↔_;rw [or_iff_right (show ¬Pg.mt0 _ _ _ _ from hm)];simp [Pg.mt1,or_assoc])) (ho:=(.n:PickO _ _ _)) (.n:SelR _ _ _)
theorem zzf {ex:Int} {ey:Int} {fx:Int} {fy:Int} {gx:Int} {gy:Int} {hx:Int} {hy:Int} (hre:Pg.inR (ex,ey)) (hrf:Pg.inR (fx,fy)) (hrg:Pg.inR (gx,gy)) (hrh:Pg.inR (hx,hy)):Con yb 92 [.agg #[.int .i64 ex,.int .i64 ey],.agg #[.int .i64 fx,.int .i64 fy],.agg #[.int .i64 gx,.int .i64 gy],.agg #[.int .i64 hx,.int .i64 hy]] [] [] (Y:=Unit) (fun y=>True) (fun y=> .bool (decide (Pg.mt (ex,ey) (fx,fy) (gx,gy) (hx,hy)))) (fun y=>[]) (fun y=>[]):=by
 refine zm Tryz.func92 rfl rfl rfl (fun c=> ?_)
 show RunC _ _ _ _ _ [(0,.agg #[.int .i64 ex,.int .i64 ey]),(1,.agg #[.int .i64 fx,.int .i64 fy]),(2,.agg #[.int .i64 gx,.int .i64 gy]),(3,.agg #[.int .i64 hx,.int .i64 hy])] [] []
 have hs0:=Pg.sgn_mul (Pg.crs (ex,ey) (fx,fy) (gx,gy)) (Pg.crs (ex,ey) (fx,fy) (hx,hy))
 have hs1:=Pg.sgn_mul (Pg.crs (gx,gy) (hx,hy) (ex,ey)) (Pg.crs (gx,gy) (hx,hy) (fx,fy))
 have hc0:=(Pg.cb hre hrf hrg).c
 have hc1:=(Pg.cb hre hrf hrh).c
 have hc2:=(Pg.cb hrg hrh hre).c
 have hc3:=(Pg.cb hrg hrh hrf).c
 refine zg<|za<|zM rfl rfl (zR rfl rfl) (fun b1=> ?_)
 refine zM rfl rfl (zR rfl rfl) (fun b2=> ?_)
 refine zM rfl rfl (zR rfl rfl) (fun b3=> ?_)
 refine zM rfl rfl (zR rfl rfl) (fun b4=> ?_)
 refine e_p (zb rfl)<|zh<|zd<|zg<|zEa (X:=Unit) (fun x=>True) (fun x=>[(30,.bool (decide ((((Pg.onS (ex,ey) (fx,fy) (gx,gy))∨(Pg.onS (ex,ey) (fx,fy) (hx,hy)))∨(Pg.onS (gx,gy) (hx,hy) (ex,ey)))∨(Pg.onS (gx,gy) (hx,hy) (fx,fy))))),(8,.bool false),(7,.pointer (some ⟨b4,0,none⟩)),(6,.pointer (some ⟨b3,0,none⟩)),(5,.pointer (some ⟨b2,0,none⟩)),(4,.pointer (some ⟨b1,0,none⟩))]) (fun x=>[boxA b4 30 [.int .i64 hx,.int .i64 hy],boxA b3 30 [.int .i64 gx,.int .i64 gy],boxA b2 30 [.int .i64 fx,.int .i64 fy],boxA b1 30 [.int .i64 ex,.int .i64 ey]]) (fun x=>[]) ?_ ?_
 ·
  refine za<|e_ru (zc 3 ty30 rfl rfl (.t2 .nil))<|e_ru (zc 2 ty30 rfl rfl (.t2 .nil))<|e_ru (zc 1 ty30 rfl rfl (.t2 .nil))<|zL rfl rfl (.c rfl (.c rfl (.c rfl .n))) ce35 (zOb (ex:=ex) (ey:=ey) (fx:=fx) (fy:=fy) (gx:=gx) (gy:=gy) (hre:=ass) (hrf:=ass) (hrg:=ass)) (.n)<|zaa rfl rfl (zX rfl) (fun h5=> ?_) (fun h5=> ?_)
  ·
   refine e_no<|e_no<|e_no<|e_no<|e_p (zo rfl rfl)<|e_mv rfl<|e_no<|e_no<|e_no<|e_no<|e_p (zo rfl rfl)<|e_mv rfl<|e_no<|e_no<|e_no<|e_no<|e_p (zo rfl rfl)<|zh ?_
   exact zga () (show True from by first|trivial|omega|simp_all) ((.e rfl (congrArg Value.bool cbu) (.of rfl)):SubM _ _) (ho:=((.of [0,0,0,0] rfl):PickO _ _ _)) (.n:SelR _ _ _)
  ·
   refine e_ru (zc 3 ty30 rfl rfl (.t2 .nil))<|e_ru (zc 2 ty30 rfl rfl (.t2 .nil))<|e_ru (zc 0 ty30 rfl rfl (.t2 .nil))<|zL rfl rfl (.c rfl (.c rfl (.c rfl .n))) ce35 (zOb (ex:=ex) (ey:=ey) (fx:=fx) (fy:=fy) (gx:=hx) (gy:=hy) (hre:=ass) (hrf:=ass) (hrg:=ass)) (.n)<|e_p (zo rfl rfl)<|zaa rfl rfl (zX rfl) (fun h6=> ?_) (fun h6=> ?_)
   ·
    refine e_no<|e_no<|e_no<|e_no<|e_p (zo rfl rfl)<|e_mv rfl<|e_no<|e_no<|e_no<|e_no<|e_p (zo rfl rfl)<|zh ?_
    exact zga () (show True from by first|trivial|omega|simp_all) ((.e rfl (congrArg Value.bool cbu) (.of rfl)):SubM _ _) (ho:=((.of [0,0,0,0] rfl):PickO _ _ _)) (.n:SelR _ _ _)
   ·
    refine e_ru (zc 1 ty30 rfl rfl (.t2 .nil))<|e_ru (zc 0 ty30 rfl rfl (.t2 .nil))<|e_ru (zc 3 ty30 rfl rfl (.t2 .nil))<|zL rfl rfl (.c rfl (.c rfl (.c rfl .n))) ce35 (zOb (ex:=gx) (ey:=gy) (fx:=hx) (fy:=hy) (gx:=ex) (gy:=ey) (hre:=ass) (hrf:=ass) (hrg:=ass)) (.n)<|e_p (zo rfl rfl)<|zaa rfl rfl (zX rfl) (fun h7=> ?_) (fun h7=> ?_)
    ·
     refine e_no<|e_no<|e_no<|e_no<|e_p (zo rfl rfl)<|zh ?_
     exact zga () (show True from by first|trivial|omega|simp_all) ((.e rfl (congrArg Value.bool cbu) (.of rfl)):SubM _ _) (ho:=((.of [0,0,0,0] rfl):PickO _ _ _)) (.n:SelR _ _ _)
    ·
     refine e_ru (zc 1 ty30 rfl rfl (.t2 .nil))<|e_ru (zc 0 ty30 rfl rfl (.t2 .nil))<|e_ru (zc 2 ty30 rfl rfl (.t2 .nil))<|zL rfl rfl (.c rfl (.c rfl (.c rfl .n))) ce35 (zOb (ex:=gx) (ey:=gy) (fx:=hx) (fy:=hy) (gx:=fx) (gy:=fy) (hre:=ass) (hrf:=ass) (hrg:=ass)) (.n)<|e_p (zo rfl rfl)<|zh ?_
     exact zga () (show True from by first|trivial|omega|simp_all) ((.e rfl (congrArg Value.bool cbu) (.of rfl)):SubM _ _) (ho:=((.of [0,0,0,0] rfl):PickO _ _ _)) (.n:SelR _ _ _)
 ·
  rintro ⟨⟩ -
  try dsimp only
  refine zC rfl (fun hm=> ?_) (fun hm=> ?_)
  ·
   refine zg<|za<|e_p (zb rfl)<|zh<|zd<|zH<|zi ?_
   exact zy Tryz.results92 () trivial (zl rfl) (congrArg Value.bool (by rw [decide_eq_true_iff];refine Or.inr ?_;unfold Pg.mt1;simpa [or_assoc] using hm)) (ho:=(.n:PickO _ _ _)) (.n:SelR _ _ _)
  ·
   refine zA<|zd<|zEa (X:=Unit) (fun x=>True) (fun x=>[(8,.bool (decide ((((Pg.crs (ex,ey) (fx,fy) (gx,gy)).sign*(Pg.crs (ex,ey) (fx,fy) (hx,hy)).sign)<0)∧(((Pg.crs (gx,gy) (hx,hy) (ex,ey)).sign*(Pg.crs (gx,gy) (hx,hy) (fx,fy)).sign)<0))))]) (fun x=>[boxA b4 30 [.int .i64 hx,.int .i64 hy],boxA b3 30 [.int .i64 gx,.int .i64 gy],boxA b2 30 [.int .i64 fx,.int .i64 fy],boxA b1 30 [.int .i64 ex,.int .i64 ey]]) (fun x=>[]) ?_ ?_
   ·
    refine zW (OW:=[]) (O:=[boxA b4 30 [.int .i64 hx,.int .i64 hy],boxA b3 30 [.int .i64 gx,.int .i64 gy],boxA b2 30 [.int .i64 fx,.int .i64 fy],boxA b1 30 [.int .i64 ex,.int .i64 ey]]) 100000 mixed (.then .ret) kr<|e_u 0 rfl rfl (zc 3 ty30 rfl rfl (.t2 .nil))<|e_u 1 rfl rfl (zc 2 ty30 rfl rfl (.t2 .nil))<|e_u 2 rfl rfl (zc 1 ty30 rfl rfl (.t2 .nil))<|e_u 5 rfl rfl (zc 3 ty30 rfl rfl (.t2 .nil))<|e_u 6 rfl rfl (zc 2 ty30 rfl rfl (.t2 .nil))<|e_u 7 rfl rfl (zc 0 ty30 rfl rfl (.t2 .nil))<|e_one 3 (zpa rfl rfl rfl rfl (.c rfl (.c rfl (.c rfl .n))) ce55 (zsb (ex:=ex) (ey:=ey) (fx:=fx) (fy:=fy) (gx:=gx) (gy:=gy) (hre:=ass) (hrf:=ass) (hrg:=ass)) (.n) ?_)
    refine e_one 4 (zpa rfl rfl rfl rfl (.c rfl .n) ce65 (zxb (z:=Pg.crs (ex,ey) (fx,fy) (gx,gy)) (hz:=cbo)) (.n) ?_)
    refine e_one 8 (zpa rfl rfl rfl rfl (.c rfl (.c rfl (.c rfl .n))) ce55 (zsb (ex:=ex) (ey:=ey) (fx:=fx) (fy:=fy) (gx:=hx) (gy:=hy) (hre:=ass) (hrf:=ass) (hrg:=ass)) (.n) ?_)
    refine e_one 9 (zpa rfl rfl rfl rfl (.c rfl .n) ce65 (zxb (z:=Pg.crs (ex,ey) (fx,fy) (hx,hy)) (hz:=cbo)) (.n) ?_)
    refine e_pv 10 rfl rfl (zya (z:=((Pg.crs (ex,ey) (fx,fy) (gx,gy)).sign*(Pg.crs (ex,ey) (fx,fy) (hx,hy)).sign)) rfl rfl (w64 om))<|e_pv 11 rfl rfl (zY rfl rfl)<|zDb 12 rfl rfl kr kr rfl rfl (zX rfl) (fun h8=> ?_) (fun h8=> ?_)
    ·
     refine e_u 13 rfl rfl (zc 1 ty30 rfl rfl (.t2 .nil))<|e_u 14 rfl rfl (zc 0 ty30 rfl rfl (.t2 .nil))<|e_u 15 rfl rfl (zc 3 ty30 rfl rfl (.t2 .nil))<|e_u 18 rfl rfl (zc 1 ty30 rfl rfl (.t2 .nil))<|e_u 19 rfl rfl (zc 0 ty30 rfl rfl (.t2 .nil))<|e_u 20 rfl rfl (zc 2 ty30 rfl rfl (.t2 .nil))<|e_one 16 (zpa rfl rfl rfl rfl (.c rfl (.c rfl (.c rfl .n))) ce55 (zsb (ex:=gx) (ey:=gy) (fx:=hx) (fy:=hy) (gx:=ex) (gy:=ey) (hre:=ass) (hrf:=ass) (hrg:=ass)) (.n) ?_)
     refine e_one 17 (zpa rfl rfl rfl rfl (.c rfl .n) ce65 (zxb (z:=Pg.crs (gx,gy) (hx,hy) (ex,ey)) (hz:=cbo)) (.n) ?_)
     refine e_one 21 (zpa rfl rfl rfl rfl (.c rfl (.c rfl (.c rfl .n))) ce55 (zsb (ex:=gx) (ey:=gy) (fx:=hx) (fy:=hy) (gx:=fx) (gy:=fy) (hre:=ass) (hrf:=ass) (hrg:=ass)) (.n) ?_)
     refine e_one 22 (zpa rfl rfl rfl rfl (.c rfl .n) ce65 (zxb (z:=Pg.crs (gx,gy) (hx,hy) (fx,fy)) (hz:=cbo)) (.n) ?_)
     refine e_pv 23 rfl rfl (zya (z:=((Pg.crs (gx,gy) (hx,hy) (ex,ey)).sign*(Pg.crs (gx,gy) (hx,hy) (fx,fy)).sign)) rfl rfl (w64 om))<|e_pv 24 rfl rfl (zY rfl rfl)<|e_pv 25 rfl rfl (zo rfl rfl)<|e_pv 26 rfl rfl (zb rfl)<|zT kr ?_
     exact zga () (show True from by first|trivial|omega|simp_all) ((.e rfl (congrArg Value.bool cbu) .n):SubM _ _) (ho:=((.of [0,0,0,0] rfl):PickO _ _ _)) (.n:SelR _ _ _)
    ·
     refine e_skip 13 rfl rfl<|e_skip 14 rfl rfl<|e_skip 15 rfl rfl<|e_skip 16 rfl rfl<|e_skip 17 rfl rfl<|e_skip 18 rfl rfl<|e_skip 19 rfl rfl<|e_skip 20 rfl rfl<|e_skip 21 rfl rfl<|e_skip 22 rfl rfl<|e_skip 23 rfl rfl<|e_skip 24 rfl rfl<|e_pv 25 rfl rfl (zo rfl rfl)<|e_pv 26 rfl rfl (zb rfl)<|zT kr ?_
     exact zga () (show True from by first|trivial|omega|simp_all) ((.e rfl (congrArg Value.bool cbu) .n):SubM _ _) (ho:=((.of [0,0,0,0] rfl):PickO _ _ _)) (.n:SelR _ _ _)
   ·
    rintro ⟨⟩ -
    try dsimp only
    refine zH ?_
    exact zy Tryz.results92 () trivial (zl rfl) (congrArg Value.bool (by rw [Bool.eq_iff_iff,decide_eq_true_iff];show Pg.mt0 _ _ _ _∨Pg.mt1 _ _ _ _↔_;rw [or_iff_left (fun k=>hm (by unfold Pg.mt1 at k;simpa [or_assoc] using k))];simp [Pg.mt0])) (ho:=(.n:PickO _ _ _)) (.n:SelR _ _ _)
end Go.Proofs.YtjcpbhlijoigfaaGreat.Sp
namespace Go.Proofs.YtjcpbhlijoigfaaGreat.Sp
open Go
set_option linter.unusedVariables false
set_option maxRecDepth 100000
set_option maxHeartbeats 8000000
theorem zxg {p:Option Addr} {n:Nat} {cap:Nat} {l:List Pg.P2} {ex:Int} {ey:Int} (hn:l.length=n):Con yb 90 [.slice p n cap,.agg #[.int .i64 ex,.int .i64 ey]] [] [slF (rI2 .i64) p cap l] (Y:=Int) (fun y=>(0≤y↔(ex,ey)∈l)) (fun y=> .int .i64 y) (fun y=>[]) (fun y=>[]):=by
 refine zm Tryz.func90 rfl rfl rfl (fun c=> ?_)
 show RunC _ _ _ _ _ [(0,.slice p n cap),(1,.agg #[.int .i64 ex,.int .i64 ey])] [] [slF (rI2 .i64) p cap l]
 refine zba 0 rfl (fun hL0=> ?_)
 refine zg<|za<|zM rfl rfl (zR rfl rfl) (fun b1=> ?_)
 refine e_p (zb rfl)<|zh<|zd<|zg<|zg<|za<|e_mv rfl<|e_p (zN yc rfl)<|e_mv rfl<|zh<|zd<|zB<|zka (X:=Nat) (fun x:Nat=>x≤n∧∀j,j<x→¬((ex,ey)=(l.getD j (0,0)))) (fun x=>[(8,.int .i64 ((x:Nat):Int)),(7,.int .i64 ((n:Nat):Int)),(3,.pointer (some ⟨b1,0,none⟩)),(0,.slice p n cap)]) (fun x=>[boxA b1 30 [.int .i64 ex,.int .i64 ey]]) (fun x=>[slF (rI2 .i64) p cap l]) (fun x:Nat=>n - x) 0 (show 0≤n∧∀j,j<0→¬((ex,ey)=(l.getD j (0,0))) from by exact ⟨Nat.zero_le _,fun j h=>by omega⟩) ((.e rfl (by first|rfl|(congr 1;omega)|simp_all) (.of rfl)):SubM _ _) (ho:=((.c (i:=0) rfl .n):PickO _ _ _)) ((.c (j:=0) rfl .n):SelR _ _ _) ?_
 rintro i hI
 replace hI:i≤n∧∀j,j<i→¬((ex,ey)=(l.getD j (0,0))):=hI
 try dsimp only
 obtain ⟨hi,hall⟩:=hI
 refine zg<|za<|e_p (zY rfl rfl)<|zh<|zd<|zg<|zC rfl (fun h2=> ?_) (fun h2=> ?_)
 ·
  refine zA<|zd<|zg<|zB<|zg<|za<|e_mv rfl<|e_p (zb rfl)<|zh<|zd<|zg<|zW (OW:=[]) (O:=[boxA b1 30 [.int .i64 ex,.int .i64 ey]]) 100000 mixed (.then (.block (.then (.then (.block (.then .ret)))))) kr<|e_u 0 rfl rfl (zc 0 ty30 rfl rfl (.t2 .nil))<|e_dm 1 rfl rfl rfl<|e_dm 2 rfl rfl rfl<|zZ (x0:=(l.getD i (0,0))) 3 rfl rfl kr kr 0 i rfl yc sz30 rfl rfl rfl cbs rfl rfl (gD (d:=(0,0)) om) (fun b3 o4 hok5=> ?_)
  obtain ⟨hok5x,hok5y⟩:=hok5
  replace hok5x:=zD.1 hok5x
  replace hok5y:=zD.1 hok5y
  refine e_u 4 rfl rfl (zq (j:=0) 0 ty30 rfl rfl rfl (.t2 .nil))<|e_pv 5 rfl rfl (zLe (p:=ex=(l.getD i (0,0)).1∧ey=(l.getD i (0,0)).2) kr rfl rfl (zid ya kr (zwd dd ty3 rfl rfl (zac Tryz.underlying3) (zwd dd ty3 rfl rfl (zac Tryz.underlying3) zif))) (by simp [Bool.decide_and]))<|zT kr<|zd<|zC rfl (fun hb=> ?_) (fun hb=> ?_)
  ·
   refine zg<|za<|e_mv rfl<|e_p (zb rfl)<|zh<|zd<|zH<|zp<|zi<|zi<|zp<|zi ?_
   exact zy Tryz.results90 ((i:Nat):Int) (⟨fun _=>by have h9:(ex,ey)=(l.getD i (0,0)):=(by first|exact hb|exact Prod.ext hb.1 hb.2);rw [h9];exact Ms.getD_mem (0,0) om,fun _=>by omega⟩) (zl rfl) rfl (ho:=(.n:PickO _ _ _)) (.n:SelR _ _ _)
  ·
   refine zA<|zO<|zd<|za<|e_p (zI (z:=(((i+1):Nat):Int)) rfl rfl (w64 om))<|e_mv rfl<|zh<|zda (i+1) (show (i+1)≤n∧∀j,j<(i+1)→¬((ex,ey)=(l.getD j (0,0))) from by exact ⟨by omega,Ms.all_lt_succ (P:=fun j=>¬((ex,ey)=(l.getD j (0,0)))) hall (fun k=>hb (by first|exact k|exact ⟨congrArg Prod.fst k,congrArg Prod.snd k⟩))⟩) (by show n - (i+1)<n - i;omega) ((.of rfl):SubM _ _) (ho:=((.c (i:=0) rfl .n):PickO _ _ _)) ((.c (j:=1) rfl .n):SelR _ _ _)
 ·
  refine zja<|zj<|zj<|zt<|zd<|zg<|za<|e_p (zb rfl)<|zh<|zd<|zH ?_
  exact zy Tryz.results90 (-1) (⟨fun h=>by omega,fun h=>by obtain ⟨j,h1,h2⟩:=Ms.mem_getD (0,0) h;exact absurd h2.symm (hall j om)⟩) (zl rfl) rfl (ho:=(.n:PickO _ _ _)) (.n:SelR _ _ _)
theorem zyg {p:Option Addr} {n:Nat} {cap:Nat} {l:List Pg.P2} {ex:Int} {ey:Int} (hn:l.length=n):Con yb 49 [.slice p n cap,.agg #[.int .i64 ex,.int .i64 ey]] [] [slF (rI2 .i64) p cap l] (Y:=Unit) (fun y=>True) (fun y=> .bool (decide ((ex,ey)∈l))) (fun y=>[]) (fun y=>[]):=by
 refine zm Tryz.func49 rfl rfl rfl (fun c=> ?_)
 show RunC _ _ _ _ _ [(0,.slice p n cap),(1,.agg #[.int .i64 ex,.int .i64 ey])] [] [slF (rI2 .i64) p cap l]
 refine zba 0 rfl (fun hL0=> ?_)
 refine zg<|za<|zM rfl rfl (zR rfl rfl) (fun b1=> ?_)
 refine e_p (zb rfl)<|zh<|zd<|zg<|za<|e_mv rfl<|e_ru (zc 0 ty30 rfl rfl (.t2 .nil))<|zE rfl rfl (.c rfl (.c rfl .n)) ce90 (zxg (p:=p) (n:=n) (cap:=cap) (l:=l) (ex:=ex) (ey:=ey) (hn:=ass)) (.c (j:=0) rfl .n) ?_
 rintro r2 hr
 dsimp only [aq,nq,cq]
 replace hr:(0≤r2↔(ex,ey)∈l):=hr
 refine e_p (zJa rfl rfl)<|e_p (zb rfl)<|zh<|zd<|zH ?_
 exact zy Tryz.results49 () trivial (zl rfl) (congrArg Value.bool (decide_eq_decide.2 hr.symm)) (ho:=(.n:PickO _ _ _)) (.n:SelR _ _ _)
theorem zAf {p:Option Addr} {n:Nat} {cap:Nat} {l:List (Pg.P2)} (hn:l.length=n):Con yb 89 [.slice p n cap,.func (.func 46) #[] #[]] [] [slF (rI2 .i64) p cap l] (Y:=Int) (fun y=>(0≤y↔l.any Pg.far=true)) (fun y=> .int .i64 y) (fun y=>[]) (fun y=>[]):=by
 refine zm Tryz.func89 rfl rfl rfl (fun c=> ?_)
 show RunC _ _ _ _ _ [(0,.slice p n cap),(1,.func (.func 46) #[] #[])] [] [slF (rI2 .i64) p cap l]
 refine zba 0 rfl (fun hL0=> ?_)
 refine zg<|za<|e_p (zb rfl)<|zh<|zd<|zg<|zg<|za<|e_mv rfl<|e_p (zN yc rfl)<|e_mv rfl<|zh<|zd<|zB<|zka (X:=Nat) (fun x:Nat=>x≤n∧∀j,j<x→Pg.far (l.getD j (0,0))=false) (fun x=>[(8,.int .i64 ((x:Nat):Int)),(7,.int .i64 ((n:Nat):Int)),(0,.slice p n cap),(1,.func (.func 46) #[] #[])]) (fun x=>[]) (fun x=>[slF (rI2 .i64) p cap l]) (fun x:Nat=>n - x) 0 (show 0≤n∧∀j,j<0→Pg.far (l.getD j (0,0))=false from by exact ⟨by omega,fun j h=>by omega⟩) ((.e rfl (by first|rfl|(congr 1;omega)|simp_all) (.of rfl)):SubM _ _) (ho:=(.n:PickO _ _ _)) ((.c (j:=0) rfl .n):SelR _ _ _) ?_
 rintro i hI
 replace hI:i≤n∧∀j,j<i→Pg.far (l.getD j (0,0))=false:=hI
 try dsimp only
 obtain ⟨hi,hall⟩:=hI
 refine zg<|za<|e_p (zY rfl rfl)<|zh<|zd<|zg<|zC rfl (fun h1=> ?_) (fun h1=> ?_)
 ·
  refine zA<|zd<|zg<|zB<|zg<|za<|e_mv rfl<|e_p (zb rfl)<|zh<|zd<|zg<|za<|e_mv rfl<|e_mv rfl<|e_mv rfl<|zP (x0:=(l.getD i (0,0))) 0 i rfl yc sz30 rfl rfl rfl cbs rfl rfl (gD (d:=(0,0)) om) (fun b2 o3 hok4=> ?_)
  obtain ⟨hok4x,hok4y⟩:=hok4
  replace hok4x:=zD.1 hok4x
  replace hok4y:=zD.1 hok4y
  refine e_ru (zq (j:=0) 0 ty30 rfl rfl rfl (.t2 .nil))<|zHc (first:=[]) (cap:=[]) rfl rfl rfl (.c rfl .n) ce46 (zmc (ex:=(l.getD i (0,0)).1) (ey:=(l.getD i (0,0)).2) (hwex:=cbb) (hwey:=cbb)) (.n) ?_
  rintro ⟨⟩ -
  dsimp only [aq,nq,cq]
  refine zh<|zd<|zob rfl (fun hb=> ?_) (fun hb=> ?_)
  ·
   refine zg<|za<|e_mv rfl<|e_p (zb rfl)<|zh<|zd<|zH<|zp<|zi<|zi<|zp<|zi ?_
   exact zy Tryz.results89 ((i:Nat):Int) (⟨fun _=>Ms.any_true (0,0) (i:=i) om (by first|exact hb|simpa using hb),fun _=>by omega⟩) (zl rfl) rfl (ho:=(.n:PickO _ _ _)) (.n:SelR _ _ _)
  ·
   refine zA<|zO<|zd<|za<|e_p (zI (z:=(((i+1):Nat):Int)) rfl rfl (w64 om))<|e_mv rfl<|zh<|zda (i+1) (show (i+1)≤n∧∀j,j<(i+1)→Pg.far (l.getD j (0,0))=false from by exact ⟨by omega,Ms.all_lt_succ hall (by first|exact hb|simpa using hb)⟩) (by show n - (i+1)<n - i;omega) ((.of rfl):SubM _ _) (ho:=(.n:PickO _ _ _)) ((.c (j:=1) rfl .n):SelR _ _ _)
 ·
  refine zja<|zj<|zj<|zt<|zd<|zg<|za<|e_p (zb rfl)<|zh<|zd<|zH ?_
  exact zy Tryz.results89 (-1) (⟨fun h=>by omega,fun h=>by rw [Ms.any_false (0,0) (fun j hj=>hall j om)] at h;cases h⟩) (zl rfl) rfl (ho:=(.n:PickO _ _ _)) (.n:SelR _ _ _)
theorem zBf {p:Option Addr} {n:Nat} {cap:Nat} {l:List (Pg.P2)} (hn:l.length=n):Con yb 45 [.slice p n cap,.func (.func 46) #[] #[]] [] [slF (rI2 .i64) p cap l] (Y:=Unit) (fun y=>True) (fun y=> .bool (l.any Pg.far)) (fun y=>[]) (fun y=>[]):=by
 refine zm Tryz.func45 rfl rfl rfl (fun c=> ?_)
 show RunC _ _ _ _ _ [(0,.slice p n cap),(1,.func (.func 46) #[] #[])] [] [slF (rI2 .i64) p cap l]
 refine zba 0 rfl (fun hL0=> ?_)
 refine zg<|za<|e_p (zb rfl)<|zh<|zd<|zg<|za<|e_mv rfl<|e_mv rfl<|zE rfl rfl (.c rfl (.c rfl .n)) ce89 (zAf (p:=p) (n:=n) (cap:=cap) (l:=l) (hn:=ass)) (.c (j:=0) rfl .n) ?_
 rintro r1 hr
 dsimp only [aq,nq,cq]
 replace hr:(0≤r1↔l.any Pg.far=true):=hr
 refine e_p (zJa rfl rfl)<|e_p (zb rfl)<|zh<|zd<|zH ?_
 exact zy Tryz.results45 () trivial (zl rfl) (congrArg Value.bool (by rw [Bool.eq_iff_iff,decide_eq_true_iff];exact hr.symm)) (ho:=(.n:PickO _ _ _)) (.n:SelR _ _ _)
end Go.Proofs.YtjcpbhlijoigfaaGreat.Sp
