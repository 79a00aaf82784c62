/- Lemmas on the walk and plain lemmas that the claim of this folder uses; each states its own conditions. Lines were printed by a program of ours. -/
import Derived.Test.YtjcpbhlijoigfaaGreatZ5A
set_option linter.unusedVariables false
set_option linter.unusedSimpArgs false
set_option linter.unusedSectionVars false
open Go.Proofs.YtjcpbhlijoigfaaGreat.Big renaming digs → ya
namespace Go.Proofs.YtjcpbhlijoigfaaGreat.Big
theorem valL_drop (A:List Int) (k:Nat):valL (A.drop k)=A.getD k 0+1000000000*valL (A.drop (k+1)):=by
  rcases Nat.lt_or_ge k A.length with h|h
  · rw [List.drop_eq_getElem_cons h,List.getD_eq_getElem?_getD,List.getElem?_eq_getElem h];rfl
  · rw [List.drop_eq_nil_of_le h,List.drop_eq_nil_of_le (by omega),List.getD_eq_getElem?_getD,List.getElem?_eq_none h];rfl
theorem valL_cut (A:List Int) (k:Nat) (h:k≤A.length):valL A=valL (A.take k)+pw k*valL (A.drop k):=by
  have h1:=valL_append (A.take k) (A.drop k)
  rw [List.take_append_drop,List.length_take,Nat.min_eq_left h] at h1;exact h1
theorem okL_drop {l:List Int} (h:okL l) (k:Nat):okL (l.drop k):=fun d hd=>h d (List.mem_of_mem_drop hd)
theorem valL_take_lt {l:List Int} (h:okL l) (k:Nat):0≤valL (l.take k)∧valL (l.take k)<pw k:=by
  have h1:=valL_lt (okL_take h k)
  have h2:=valL_nonneg (okL_take h k)
  have h3:=pw_mono (show (l.take k).length≤k by rw [List.length_take];omega)
  omega
theorem pad_set {n:Nat} {qs:List Int} (x:Int):(List.replicate (n+1) 0++qs).set n x=List.replicate n 0++x :: qs:=by
  rw [List.replicate_succ',List.append_assoc,List.set_append_right _ _ (by simp)];simp
structure ShI (A:List Int) (d:Int) (k:Nat) (qs:List Int) (r:Int):Prop where
  le:k≤A.length
  len:qs.length=A.length - k
  ok:okL qs
  r0:0≤r
  r1:r<d
  eq:valL qs*d+r=valL (A.drop k)
theorem ShI.start {A:List Int} {d:Int} (hd:0<d):ShI A d A.length [] 0:=⟨Nat.le_refl _,by simp,okL_nil,Int.le_refl _,hd,by simp [valL]⟩
theorem sh_digit {r d g:Int} (h0:0≤r) (h1:r<d) (hg:0≤g∧g<1000000000):0≤(r*1000000000+g) / d∧(r*1000000000+g) / d<1000000000:=by
  refine ⟨Int.ediv_nonneg (by omega) (by omega),?_⟩
  refine Int.ediv_lt_of_lt_mul (by omega) ?_
  have:(r+1)*1000000000≤d*1000000000:=Int.mul_le_mul_of_nonneg_right (by omega) (by decide)
  rw [Int.mul_comm d] at this;omega
theorem ShI.step {A:List Int} {d:Int} {k:Nat} {qs:List Int} {r:Int} (h:ShI A d (k+1) qs r) (hA:okL A):ShI A d k ((r*1000000000+A.getD k 0) / d :: qs) ((r*1000000000+A.getD k 0)%d):=by
  have hg:=okL_getD hA k
  have h0:=h.r0;have h1:=h.r1;have hle:=h.le
  have hd:0<d:=by omega
  refine ⟨by omega,by simp only [List.length_cons,h.len];omega,okL_cons.2 ⟨sh_digit h0 h1 hg,h.ok⟩,Int.emod_nonneg _ (by omega),Int.emod_lt_of_pos _ hd,?_⟩
  rw [valL_drop,←h.eq]
  have e:=Int.mul_ediv_add_emod (r*1000000000+A.getD k 0) d
  simp only [valL]
  rw [Int.add_mul,Int.mul_comm _ d]
  have e2:1000000000*valL qs*d=1000000000*(valL qs*d):=Int.mul_assoc _ _ _
  omega
theorem ShI.fin {a m:Nat} {qs:List Int} {r:Int} (h:ShI (digs a) (m:Int) 0 qs r):trimL qs=digs (a / m)∧r=((a%m:Nat):Int):=by
  have e:=h.eq;have h0:=h.r0;have h1:=h.r1;have hn:=valL_nonneg h.ok
  rw [List.drop_zero,valL_digs] at e
  have hq:valL qs=((a / m:Nat):Int):=by
    rw [Int.natCast_ediv]
    symm
    have e3:(a:Int)=r+valL qs*(m:Int):=by omega
    rw [e3,Int.add_mul_ediv_right _ _ (by omega),Int.ediv_eq_zero_of_lt h0 h1];omega
  refine ⟨trimL_of h.ok hq,?_⟩
  rw [Int.natCast_emod]
  have e3:(a:Int)=r+valL qs*(m:Int):=by omega
  rw [e3,Int.add_mul_emod_self_right,Int.emod_eq_of_lt h0 h1]
structure LgI (M n:Nat) (a v:Int) (jj:Nat) (u qs:List Int):Prop where
  ul:u.length=M
  uo:okL u
  ql:qs.length=M - n - jj
  qo:okL qs
  jle:jj+n≤M
  eq:valL u+v*pw jj*valL qs=a
  lt:valL u<v*pw jj
structure Gs (T v vt top g r:Int):Prop where
  eq:g*vt+r=top
  r0:0≤r
  g0:0≤g
  up:T<(g+1)*v
structure Tp (T v vt vs u2 u1 u0 w:Int):Prop where
  w1:1≤w
  vt1:1≤vt
  vt2:vt<1000000000
  vs0:0≤vs
  vs1:vs<1000000000
  a0:0≤u0∧u0<1000000000
  a1:0≤u1∧u1<1000000000
  a2:0≤u2∧u2<1000000000
  vlo:(vt*1000000000+vs)*w≤v
  vhi:v<(vt*1000000000+vs+1)*w
  tlo:((u2*1000000000+u1)*1000000000+u0)*w≤T
  thi:T<((u2*1000000000+u1)*1000000000+u0+1)*w
  tv:T<v*1000000000
theorem mul_le_of {a b w:Int} (hw:0≤w) (h:a≤b):a*w≤b*w:=Int.mul_le_mul_of_nonneg_right h hw
theorem lt_of_mul {a b w:Int} (hw:1≤w) (h:a*w<b*w):a<b:=Int.lt_of_mul_lt_mul_right h (by omega)
theorem Tp.top {T v vt vs u2 u1 u0 w:Int} (h:Tp T v vt vs u2 u1 u0 w):u2≤vt:=by
  have h1:=h.tlo;have h2:=h.tv;have h3:=h.vhi;have hw:=h.w1
  have h4:=h.a0;have h5:=h.a1;have h6:=h.vs1
  have h7:((u2*1000000000+u1)*1000000000+u0)*w<((vt*1000000000+vs+1)*1000000000)*w:=by
    have:v*1000000000<(vt*1000000000+vs+1)*w*1000000000:=by omega
    have e:(vt*1000000000+vs+1)*w*1000000000=((vt*1000000000+vs+1)*1000000000)*w:=by rw [Int.mul_assoc,Int.mul_assoc,Int.mul_comm w]
    omega
  have h8:=lt_of_mul hw h7
  omega
theorem Tp.start {T v vt vs u2 u1 u0 w:Int} (h:Tp T v vt vs u2 u1 u0 w):Gs T v vt (u2*1000000000+u1) ((u2*1000000000+u1) / vt) ((u2*1000000000+u1)%vt):=by
  have hv:=h.vt1;have h1:=h.a1;have h2:=h.a2;have hw:=h.w1
  have e:=Int.mul_ediv_add_emod (u2*1000000000+u1) vt
  have hr:=Int.emod_lt_of_pos (u2*1000000000+u1) (show 0<vt by omega)
  have hr0:=Int.emod_nonneg (u2*1000000000+u1) (show vt≠0 by omega)
  have hq0:0≤(u2*1000000000+u1) / vt:=Int.ediv_nonneg (by omega) (by omega)
  generalize (u2*1000000000+u1) / vt=g at*
  generalize (u2*1000000000+u1)%vt=r at*
  refine ⟨by rw [Int.mul_comm];exact e,hr0,hq0,?_⟩
  have ht:=h.thi;have hl:=h.vlo;have h0:=h.a0;have hs:=h.vs0
  have k1:(u2*1000000000+u1)*1000000000+u0+1≤(g+1)*(vt*1000000000+vs):=by
    have k2:(g+1)*(vt*1000000000+vs)=1000000000*(vt*g)+1000000000*vt+(g+1)*vs:=by grind
    have k3:0≤(g+1)*vs:=Int.mul_nonneg (by omega) hs
    omega
  have k4:=mul_le_of (show 0≤w by omega) k1
  have k5:(g+1)*(vt*1000000000+vs)*w≤(g+1)*v:=by rw [Int.mul_assoc];exact Int.mul_le_mul_of_nonneg_left hl (by omega)
  omega
theorem Gs.le {T v vt vs u2 u1 u0 w g r:Int} (h:Tp T v vt vs u2 u1 u0 w) (k:Gs T v vt (u2*1000000000+u1) g r):g≤2000000000∧r≤1000000000000000000:=by
  have h1:=h.top;have h2:=k.eq;have h3:=h.a1;have h4:=h.vt1;have h5:=k.r0;have h6:=k.g0;have h7:=h.vt2
  have h8:0≤g*vt:=Int.mul_nonneg h6 (by omega)
  refine ⟨?_,by omega⟩
  refine Decidable.byContradiction fun hc=> ?_
  have h9:2000000001*vt≤g*vt:=Int.mul_le_mul_of_nonneg_right (by omega) (by omega)
  omega
theorem Gs.step {T v vt vs u2 u1 u0 w g r:Int} (h:Tp T v vt vs u2 u1 u0 w) (k:Gs T v vt (u2*1000000000+u1) g r) (hc:1000000000≤g∨r*1000000000+u0<g*vs):1≤g∧Gs T v vt (u2*1000000000+u1) (g - 1) (r+vt):=by
  have hr:=k.r0;have hg:=k.g0;have he:=k.eq;have hv:=h.vt1;have h0:=h.a0;have hw:=h.w1
  have hg1:1≤g:=by
    rcases hc with hc|hc
    · omega
    · refine Decidable.byContradiction fun hn => ?_
      have:g=0:=by omega
      subst this;simp at hc;omega
  have hvp:0≤v:=by
    have h1:=h.vlo;have h2:=h.vs0
    have:0≤(vt*1000000000+vs)*w:=Int.mul_nonneg (by omega) (by omega)
    omega
  refine ⟨hg1,⟨by rw [Int.sub_mul];omega,by omega,by omega,?_⟩⟩
  rw [show g - 1+1=g by omega]
  rcases hc with hc|hc
  · have h1 := h.tv
    have:1000000000*v≤g*v:=mul_le_of hvp hc
    omega
  · have h1 := h.thi; have h2 := h.vlo
    have k1:(u2*1000000000+u1)*1000000000+u0+1≤g*(vt*1000000000+vs):=by
      have:g*(vt*1000000000+vs)=1000000000*(g*vt)+g*vs:=by grind
      omega
    have k4:=mul_le_of (show 0≤w by omega) k1
    have k5:g*(vt*1000000000+vs)*w≤g*v:=by rw [Int.mul_assoc];exact Int.mul_le_mul_of_nonneg_left h2 (by omega)
    omega
theorem Gs.fin {T v vt vs u2 u1 u0 w g r:Int} (h:Tp T v vt vs u2 u1 u0 w) (k:Gs T v vt (u2*1000000000+u1) g r) (h1:g<1000000000) (h2:g*vs≤r*1000000000+u0):g*v<T+v:=by
  have he:=k.eq;have hg:=k.g0;have hw:=h.w1;have hv:=h.vt1;have hs:=h.vs0
  have k1:g*(vt*1000000000+vs)≤(u2*1000000000+u1)*1000000000+u0:=by
    have:g*(vt*1000000000+vs)=1000000000*(g*vt)+g*vs:=by grind
    omega
  have k2:=mul_le_of (show 0≤w by omega) k1
  have k3:=h.tlo
  have hl:=h.vlo;have hh:=h.vhi
  have k4:g*(v - (vt*1000000000+vs)*w)≤g*w:=Int.mul_le_mul_of_nonneg_left (by rw [Int.add_mul (vt*1000000000+vs),Int.one_mul] at hh;omega) hg
  have k5:g*w≤999999999*w:=mul_le_of (by omega) (by omega)
  have k6:1000000000*w≤(vt*1000000000+vs)*w:=mul_le_of (by omega) (by omega)
  rw [Int.mul_sub,←Int.mul_assoc] at k4
  omega
theorem Gs.broke {T v vt vs u2 u1 u0 w g r:Int} (h:Tp T v vt vs u2 u1 u0 w) (k:Gs T v vt (u2*1000000000+u1) g r) (hb:1000000000≤r):g<1000000000∧g*vs≤r*1000000000+u0:=by
  have h1:=h.top;have he:=k.eq;have h3:=h.a1;have h4:=h.vt1;have hg:=k.g0;have h0:=h.a0
  have hlt:g<1000000000:=by
    refine Decidable.byContradiction fun hc=> ?_
    have:1000000000*vt≤g*vt:=mul_le_of (by omega) (by omega)
    omega
  refine ⟨hlt,?_⟩
  have hs:=h.vs1;have hs0:=h.vs0
  have:g*vs≤999999999*vs:=mul_le_of hs0 (by omega)
  omega
theorem LgI.T {M n:Nat} {a v:Int} {j:Nat} {u qs:List Int} (h:LgI M n a v (j+1) u qs):valL u=valL (u.take j)+pw j*valL (u.drop j)∧0≤valL (u.take j)∧valL (u.take j)<pw j∧0≤valL (u.drop j)∧valL (u.drop j)<v*1000000000:=by
  have h1:=valL_cut u j (by rw [h.ul];have:=h.jle;omega)
  have h2:=valL_take_lt h.uo j
  have h3:=valL_nonneg (okL_drop h.uo j)
  refine ⟨h1,h2.1,h2.2,h3,?_⟩
  have h4:=h.lt
  rw [pw_succ] at h4
  have h5:pw j*valL (u.drop j)<pw j*(v*1000000000):=by
    have:v*(1000000000*pw j)=pw j*(v*1000000000):=by ac_rfl
    omega
  exact Int.lt_of_mul_lt_mul_left h5 (Int.le_of_lt (pw_pos j))
theorem drop_high {l:List Int} (h:okL l) {k:Nat} (hv:valL l<pw k):valL (l.drop k)=0:=by
  rcases Nat.lt_or_ge l.length k with hk|hk
  · rw [List.drop_eq_nil_of_le (by omega)];rfl
  · have h1 := valL_cut l k hk
    have h2:=valL_nonneg (okL_take h k)
    have h3:=valL_nonneg (okL_drop h k)
    refine Decidable.byContradiction fun hc=> ?_
    have:pw k*1≤pw k*valL (l.drop k):=Int.mul_le_mul_of_nonneg_left (by omega) (Int.le_of_lt (pw_pos k))
    omega
theorem getD_drop' (l:List Int) (i k:Nat):(l.drop i).getD k 0=l.getD (i+k) 0:=by simp [List.getD_eq_getElem?_getD]
theorem digs_top {b:Nat} {n:Nat} (h:(digs b).length=n+1):1≤(digs b).getD n 0:=by
  have h1:=canon_digs (b:Int)
  unfold canon at h1
  rw [Int.natAbs_natCast,if_neg (by omega),h,Nat.add_sub_cancel] at h1
  have h2:=okL_getD (digs_ok b) n
  omega
theorem LgI.high {M n:Nat} {a:Int} {b j:Nat} {u qs:List Int} (h:LgI M n a (b:Int) (j+1) u qs) (hn:(digs b).length=n):valL (u.drop (j+(n+1)))=0:=by
  have ht:=h.T
  have hb:=digs_lt b
  rw [hn] at hb
  have:=drop_high (okL_drop h.uo j) (k:=n+1) (by rw [pw_succ];omega)
  rw [List.drop_drop] at this;exact this
theorem LgI.tp {M m:Nat} {a:Int} {b j:Nat} {u qs:List Int} (h:LgI M (m+2) a (b:Int) (j+1) u qs) (hn:(digs b).length=m+2):Tp (valL (u.drop j)) b ((digs b).getD (m+1) 0) ((digs b).getD m 0) (u.getD (j+(m+2)) 0) (u.getD (j+(m+1)) 0) (u.getD (j+m) 0) (pw m):=by
  have ht:=h.T
  have hh:=h.high hn
  have hvb:=valL_digs b
  have e1:valL (digs b)=valL ((digs b).take m)+pw m*valL ((digs b).drop m):=valL_cut _ _ (by omega)
  have e2:valL ((digs b).drop m)=(digs b).getD m 0+1000000000*(digs b).getD (m+1) 0:=by
    rw [valL_drop,valL_drop,List.drop_eq_nil_of_le (show (digs b).length≤m+1+1 by omega)];simp [valL]
  have e3:=valL_take_lt (digs_ok b) m
  have f1:valL (u.drop j)=valL ((u.drop j).take m)+pw m*valL ((u.drop j).drop m):=valL_cut _ _ (by rw [List.length_drop,h.ul];have:=h.jle;omega)
  have f2:valL ((u.drop j).drop m)=u.getD (j+m) 0+1000000000*(u.getD (j+(m+1)) 0+1000000000*u.getD (j+(m+2)) 0):=by
    rw [List.drop_drop,valL_drop,valL_drop,valL_drop,show j+m+1+1+1=j+(m+2+1) by omega,hh,show j+m+1=j+(m+1) by omega,show j+(m+1)+1=j+(m+2) by omega];omega
  have f3:=valL_take_lt (okL_drop h.uo j) m
  have hp:=pw_pos m
  have ob:=digs_ok b
  have g1:=okL_getD ob (m+1);have g0:=okL_getD ob m
  have c0:=okL_getD h.uo (j+m);have c1:=okL_getD h.uo (j+(m+1));have c2:=okL_getD h.uo (j+(m+2))
  refine ⟨by omega,digs_top (n:=m+1) hn,g1.2,g0.1,g0.2,c0,c1,c2,?_,?_,?_,?_,ht.2.2.2.2⟩
  · rw [← hvb, e1, e2]
    have:(digs b).getD (m+1) 0*1000000000+(digs b).getD m 0=(digs b).getD m 0+1000000000*(digs b).getD (m+1) 0:=by omega
    rw [this,Int.mul_comm];omega
  · rw [← hvb, e1, e2]
    have:(digs b).getD (m+1) 0*1000000000+(digs b).getD m 0+1=((digs b).getD m 0+1000000000*(digs b).getD (m+1) 0)+1:=by omega
    rw [this,Int.add_mul,Int.mul_comm _ (pw m)];omega
  · rw [f1, f2]
    have:(u.getD (j+(m+2)) 0*1000000000+u.getD (j+(m+1)) 0)*1000000000+u.getD (j+m) 0=u.getD (j+m) 0+1000000000*(u.getD (j+(m+1)) 0+1000000000*u.getD (j+(m+2)) 0):=by omega
    rw [this,Int.mul_comm];omega
  · rw [f1, f2]
    have:(u.getD (j+(m+2)) 0*1000000000+u.getD (j+(m+1)) 0)*1000000000+u.getD (j+m) 0+1=(u.getD (j+m) 0+1000000000*(u.getD (j+(m+1)) 0+1000000000*u.getD (j+(m+2)) 0))+1:=by omega
    rw [this,Int.add_mul,Int.mul_comm _ (pw m)];omega
structure MsI (u:List Int) (j:Nat) (g:Int) (v:List Int) (i:Nat) (u2:List Int) (bo ca:Int):Prop where
  len:u2.length=u.length
  ok:okL u2
  b0:0≤bo
  b1:bo≤1
  c0:0≤ca
  c1:ca<1000000000
  far:∀k,j+i≤k→u2.getD k 0=u.getD k 0
  eq:valL u2=valL u - pw j*(g*valL (v.take i))+pw (j+i)*(bo+ca)
theorem MsI.start {u:List Int} (h:okL u) (j:Nat) (g:Int) (v:List Int):MsI u j g v 0 u 0 0:=⟨rfl,h,by decide,by decide,by decide,by decide,fun _ _=>rfl,by simp [valL]⟩
theorem ms_carry {g x ca:Int} (hg:0≤g∧g<1000000000) (hx:0≤x∧x<1000000000) (hc:0≤ca∧ca<1000000000):0≤g*x+ca∧g*x+ca≤999999999000000000∧0≤(g*x+ca) / 1000000000∧(g*x+ca) / 1000000000<1000000000:=by
  have h1:0≤g*x:=Int.mul_nonneg hg.1 hx.1
  have h2:g*x≤999999999*x:=mul_le_of hx.1 (by omega)
  omega
theorem MsI.step {u:List Int} {j:Nat} {g:Int} {v:List Int} {i:Nat} {u2:List Int} {bo ca y bo2:Int} (h:MsI u j g v i u2 bo ca) (hg:0≤g∧g<1000000000) (hv:okL v) (hj:j+i<u.length)
    (hy:y=u2.getD (j+i) 0 - bo - (g*v.getD i 0+ca)%1000000000+1000000000*bo2) (hy0:0≤y∧y<1000000000) (hb:0≤bo2∧bo2≤1):MsI u j g v (i+1) (u2.set (j+i) y) bo2 ((g*v.getD i 0+ca) / 1000000000):=by
  have hc:=ms_carry hg (okL_getD hv i) ⟨h.c0,h.c1⟩
  refine ⟨by rw [List.length_set];exact h.len,okL_set h.ok hy0.1 hy0.2,hb.1,hb.2,hc.2.2.1,hc.2.2.2,fun k hk=>by rw [getD_set_ne (by omega)];exact h.far k (by omega),?_⟩
  rw [valL_set y (by rw [h.len];exact hj),h.eq,valL_take_succ,hy]
  have e:=Int.mul_ediv_add_emod (g*v.getD i 0+ca) 1000000000
  rw [← Nat.add_assoc,pw_succ,pw_add]
  generalize (g*v.getD i 0+ca) / 1000000000=q at*
  generalize (g*v.getD i 0+ca)%1000000000=r at*
  have e2:r=g*v.getD i 0+ca - 1000000000*q:=by omega
  subst e2
  grind
structure AbI (u:List Int) (j:Nat) (v:List Int) (i:Nat) (u2:List Int) (ca:Int):Prop where
  len:u2.length=u.length
  ok:okL u2
  c0:0≤ca
  c1:ca≤1
  far:∀k,j+i≤k→u2.getD k 0=u.getD k 0
  eq:valL u2=valL u+pw j*valL (v.take i) - pw (j+i)*ca
theorem AbI.start {u:List Int} (h:okL u) (j:Nat) (v:List Int):AbI u j v 0 u 0:=⟨rfl,h,by decide,by decide,fun _ _=>rfl,by simp [valL]⟩
theorem AbI.step {u:List Int} {j:Nat} {v:List Int} {i:Nat} {u2:List Int} {ca y c2:Int} (h:AbI u j v i u2 ca) (hj:j+i<u.length)
    (hy:y=u2.getD (j+i) 0+v.getD i 0+ca - 1000000000*c2) (hy0:0≤y∧y<1000000000) (hb:0≤c2∧c2≤1):AbI u j v (i+1) (u2.set (j+i) y) c2:=by
  refine ⟨by rw [List.length_set];exact h.len,okL_set h.ok hy0.1 hy0.2,hb.1,hb.2,fun k hk=>by rw [getD_set_ne (by omega)];exact h.far k (by omega),?_⟩
  rw [valL_set y (by rw [h.len];exact hj),h.eq,valL_take_succ,hy]
  rw [← Nat.add_assoc,pw_succ,pw_add]
  grind
theorem LgI.next {M n:Nat} {a v:Int} {j:Nat} {u qs:List Int} (h:LgI M n a v (j+1) u qs) {u':List Int} {g:Int} (hl:u'.length=M) (ho:okL u') (hg:0≤g∧g<1000000000) (he:valL u'=valL u - pw j*(g*v)) (hlt:valL u'<v*pw j):LgI M n a v j u' (g :: qs):=by
  have hj:=h.jle
  refine ⟨hl,ho,by rw [List.length_cons,h.ql];omega,okL_cons.2 ⟨hg,h.qo⟩,by omega,?_,hlt⟩
  rw [he,←h.eq,pw_succ]
  simp only [valL]
  grind
theorem LgI.bound {M n:Nat} {a v:Int} {j:Nat} {u qs:List Int} (h:LgI M n a v (j+1) u qs) {g:Int} (hup:valL (u.drop j)<(g+1)*v):valL u<pw j*((g+1)*v):=by
  obtain ⟨h1,h2,h3,h4,_⟩:=h.T
  have:pw j*(valL (u.drop j)+1)≤pw j*((g+1)*v):=Int.mul_le_mul_of_nonneg_left (by omega) (Int.le_of_lt (pw_pos j))
  rw [Int.mul_add,Int.mul_one] at this;omega
theorem LgI.low {M n:Nat} {a v:Int} {j:Nat} {u qs:List Int} (h:LgI M n a v (j+1) u qs) {g:Int} (hdn:g*v<valL (u.drop j)+v):pw j*(g*v)<valL u+pw j*v:=by
  obtain ⟨h1,h2,h3,h4,_⟩:=h.T
  have:pw j*(g*v+1)≤pw j*(valL (u.drop j)+v):=Int.mul_le_mul_of_nonneg_left (by omega) (Int.le_of_lt (pw_pos j))
  rw [Int.mul_add,Int.mul_add,Int.mul_one] at this
  have:=pw_pos j;omega
theorem at_split {u:List Int} {k:Nat} (hk:k<u.length) (h0:valL (u.drop (k+1))=0):valL u=valL (u.take k)+pw k*u.getD k 0:=by
  rw [valL_cut u k (by omega),valL_drop u k,h0];simp
theorem drop_far {u u2:List Int} {k:Nat} (hl:u2.length=u.length) (h:∀i,k≤i→u2.getD i 0=u.getD i 0):u2.drop k=u.drop k:=
  ext_getD (by simp [hl]) (fun i hi=>by rw [getD_drop',getD_drop'];exact h _ (by omega))
theorem LgI.pos {M n:Nat} {a:Int} {b j:Nat} {u qs:List Int} (h:LgI M n a (b:Int) (j+1) u qs) {g:Int} (hg:0≤g∧g<1000000000) (hup:valL (u.drop j)<(g+1)*(b:Int))
    {u2:List Int} {bo ca:Int} (hm:MsI u j g (digs b) n u2 bo ca) (hn:(digs b).length=n) (hd:0≤u2.getD (j+n) 0 - bo - ca):LgI M n a (b:Int) j (u2.set (j+n) (u2.getD (j+n) 0 - bo - ca)) (g :: qs):=by
  have hj:=h.jle
  have hx:=okL_getD hm.ok (j+n)
  have h1:=hm.b0;have h2:=hm.c0
  have he:valL (u2.set (j+n) (u2.getD (j+n) 0 - bo - ca))=valL u - pw j*(g*(b:Int)):=by
    rw [valL_set _ (by rw [hm.len,h.ul];omega),hm.eq,List.take_of_length_le (by omega),valL_digs]
    grind
  refine h.next (by rw [List.length_set,hm.len,h.ul]) (okL_set hm.ok hd (by omega)) hg he ?_
  have:=h.bound hup
  rw [he]
  have e:pw j*((g+1)*(b:Int))=pw j*(g*(b:Int))+(b:Int)*pw j:=by grind
  omega
theorem LgI.neg1 {M n:Nat} {a:Int} {b j:Nat} {u qs:List Int} (h:LgI M n a (b:Int) (j+1) u qs) {g:Int}
    {u2:List Int} {bo ca:Int} (hm:MsI u j g (digs b) n u2 bo ca) (hn:(digs b).length=n) (hd:u2.getD (j+n) 0 - bo - ca<0):g≠0:=fun hg=>by
  subst hg
  have hj:=h.jle
  have hlen2:j+n<u2.length:=by rw [hm.len,h.ul];omega
  have hhi2:valL (u2.drop (j+n+1))=0:=by rw [drop_far hm.len (fun i hi=>hm.far i (by omega))];exact h.high hn
  have s2:=at_split hlen2 hhi2
  have t2:=valL_take_lt hm.ok (j+n)
  have hp:=pw_pos (j+n)
  have e:=hm.eq
  have:pw (j+n)*(u2.getD (j+n) 0 - bo - ca)≤pw (j+n)*(-1):=Int.mul_le_mul_of_nonneg_left (by omega) (Int.le_of_lt hp)
  rw [Int.mul_sub,Int.mul_sub] at this
  rw [Int.mul_add,Int.zero_mul,Int.mul_zero] at e
  have:=valL_nonneg h.uo
  omega
theorem LgI.neg {M n:Nat} {a:Int} {b j:Nat} {u qs:List Int} (h:LgI M n a (b:Int) (j+1) u qs) {g:Int} (hg:0≤g∧g<1000000000) (hdn:g*(b:Int)<valL (u.drop j)+(b:Int)) (hup:valL (u.drop j)<(g+1)*(b:Int))
    {u2:List Int} {bo ca:Int} (hm:MsI u j g (digs b) n u2 bo ca) (hn:(digs b).length=n) (hd:u2.getD (j+n) 0 - bo - ca<0)
    {u4:List Int} {c:Int} (hb:AbI (u2.set (j+n) (u2.getD (j+n) 0 - bo - ca+1000000000)) j (digs b) n u4 c):1≤g∧LgI M n a (b:Int) j (u4.set (j+n) ((u4.getD (j+n) 0+c)%1000000000)) ((g - 1) :: qs):=by
  have hj:=h.jle
  have hx:=okL_getD hm.ok (j+n)
  have hy:=okL_getD hb.ok (j+n)
  have h1:=hm.b0;have h2:=hm.c0;have h3:=hm.b1;have h4:=hm.c1;have c0:=hb.c0;have c1:=hb.c1
  have hlen2:j+n<u2.length:=by rw [hm.len,h.ul];omega
  have hlen4:j+n<u4.length:=by rw [hb.len,List.length_set];exact hlen2
  have hhi:=h.high hn
  have hhi2:valL (u2.drop (j+n+1))=0:=by rw [drop_far hm.len (fun i hi=>hm.far i (by omega))];exact hhi
  have s2:=at_split hlen2 hhi2
  have t2:=valL_take_lt hm.ok (j+n)
  have hp:=pw_pos (j+n)
  -- what the subtraction left is below 0
  have hS:valL u - pw j*(g*(b:Int))<0:=by
    have e:=hm.eq
    rw [List.take_of_length_le (by omega),valL_digs] at e
    have:pw (j+n)*(u2.getD (j+n) 0 - bo - ca)≤pw (j+n)*(-1):=Int.mul_le_mul_of_nonneg_left (by omega) (Int.le_of_lt hp)
    rw [Int.mul_sub,Int.mul_sub] at this
    rw [Int.mul_add] at e
    omega
  have hlow:=h.low hdn
  have hg1:1≤g:=by
    refine Decidable.byContradiction fun hc=> ?_
    have:g=0:=by omega
    subst this
    have:=valL_nonneg h.uo
    simp at hS;omega
  refine ⟨hg1,?_⟩
  have e4:=hb.eq
  rw [List.take_of_length_le (by omega),valL_digs,valL_set _ hlen2] at e4
  have e2:=hm.eq
  rw [List.take_of_length_le (by omega),valL_digs] at e2
  have hhi4:valL (u4.drop (j+n+1))=0:=by
    rw [drop_far (u:=u2.set (j+n) (u2.getD (j+n) 0 - bo - ca+1000000000)) hb.len (fun i hi=>hb.far i (by omega)),drop_far (u:=u2) (by simp) (fun i hi=>getD_set_ne (by omega) _)];exact hhi2
  have s4:=at_split hlen4 hhi4
  have t4:=valL_take_lt hb.ok (j+n)
  have hk:=Int.mul_ediv_add_emod (u4.getD (j+n) 0+c) 1000000000
  have hk0:=Int.emod_nonneg (u4.getD (j+n) 0+c) (show (1000000000:Int)≠0 by decide)
  have hk1:=Int.emod_lt_of_pos (u4.getD (j+n) 0+c) (show (0:Int)<1000000000 by decide)
  have hset:valL (u4.set (j+n) ((u4.getD (j+n) 0+c)%1000000000))=valL u4+pw (j+n)*((u4.getD (j+n) 0+c)%1000000000 - u4.getD (j+n) 0):=valL_set _ hlen4
  have hbig:(b:Int)<pw n:=by rw [← hn];exact digs_lt b
  have hbw:pw j*(b:Int)<pw (j+n):=by rw [pw_add];exact Int.mul_lt_mul_of_pos_left hbig (pw_pos j)
  -- the last group overflows
  have hco:(u4.getD (j+n) 0+c) / 1000000000=1:=by
    have hq:(u4.getD (j+n) 0+c) / 1000000000=0∨(u4.getD (j+n) 0+c) / 1000000000=1:=by omega
    rcases hq with hq|hq
    · exfalso
      have hy2:u4.getD (j+n) 0+c≤999999999:=by omega
      have m1:pw (j+n)*(u4.getD (j+n) 0+c)≤pw (j+n)*999999999:=Int.mul_le_mul_of_nonneg_left hy2 (Int.le_of_lt hp)
      rw [Int.mul_add] at m1
      have m2:pw (j+n)*(u2.getD (j+n) 0 - bo - ca+1000000000 - u2.getD (j+n) 0)=pw (j+n)*1000000000 - pw (j+n)*(bo+ca):=by grind
      rw [m2] at e4
      omega
    · exact hq
  have he:valL (u4.set (j+n) ((u4.getD (j+n) 0+c)%1000000000))=valL u - pw j*((g - 1)*(b:Int)):=by
    rw [hset,e4,e2]
    have hr:(u4.getD (j+n) 0+c)%1000000000=u4.getD (j+n) 0+c - 1000000000:=by omega
    rw [hr]
    grind
  refine h.next (by rw [List.length_set,hb.len,List.length_set,hm.len,h.ul]) (okL_set hb.ok hk0 hk1) ⟨by omega,by omega⟩ he ?_
  rw [he]
  have e:pw j*((g - 1)*(b:Int))=pw j*(g*(b:Int)) - (b:Int)*pw j:=by grind
  omega
theorem LgI.start {M n a b:Nat} {u:List Int} (ho:okL u) (hl:u.length=M) (hv:valL u=(a:Int)) (hn:(digs b).length=n) (hM:n+1≤M) (hu:valL u<pw (M - 1)) (h1:1≤n):LgI M n (a:Int) (b:Int) (M - n) u []:=by
  refine ⟨hl,ho,by simp,okL_nil,by omega,by rw [hv];simp [valL],?_⟩
  have h2:pw (n - 1)≤(b:Int):=digs_low (by omega)
  have h3:pw (M - 1)=pw (n - 1)*pw (M - n):=by rw [← pw_add];congr 1;omega
  have h4:pw (n - 1)*pw (M - n)≤(b:Int)*pw (M - n):=mul_le_of (Int.le_of_lt (pw_pos _)) h2
  omega
theorem LgI.fin {M n a b:Nat} {u qs:List Int} (h:LgI M n (a:Int) (b:Int) 0 u qs) (hn:(digs b).length=n):trimL qs=digs (a / b)∧trimL (u.take n)=digs (a%b):=by
  have e:=h.eq;have hlt:=h.lt
  rw [pw_zero,Int.mul_one] at e hlt
  have h0:=valL_nonneg h.uo;have hq0:=valL_nonneg h.qo
  have hu:valL u=((a%b:Nat):Int):=by
    rw [Int.natCast_emod,←e,Int.add_mul_emod_self_left,Int.emod_eq_of_lt h0 hlt]
  have hq:valL qs=((a / b:Nat):Int):=by
    rw [Int.natCast_ediv,←e,Int.add_mul_ediv_left _ _ (by omega),Int.ediv_eq_zero_of_lt h0 hlt];omega
  refine ⟨trimL_of h.qo hq,trimL_of (okL_take h.uo n) ?_⟩
  have h1:=h.jle
  have hc:=valL_cut u n (by rw [h.ul];omega)
  have hz:valL (u.drop n)=0:=drop_high h.uo (by have:=digs_lt b;rw [hn] at this;omega)
  rw [hz,Int.mul_zero,Int.add_zero] at hc
  rw [← hc,hu]
end Go.Proofs.YtjcpbhlijoigfaaGreat.Big
namespace Go.Proofs.YtjcpbhlijoigfaaGreat.Big
def fq (x y:Int):Int:=if 0<y then x / y else (-x) / (-y)
def fr (x y:Int):Int:=x - y*fq x y
theorem ediv_of {x y q r:Int} (h:x=y*q+r) (h0:0≤r) (h1:r<y):x / y=q:=by
  rw [h,Int.add_comm,Int.add_mul_ediv_left _ _ (by omega),Int.ediv_eq_zero_of_lt h0 h1];omega
theorem fq_of {x y q r:Int} (h:x=y*q+r) (hr:(0<y∧0≤r∧r<y)∨(y<0∧y<r∧r≤0)):fq x y=q∧fr x y=r:=by
  have e:fq x y=q:=by
    unfold fq
    rcases hr with ⟨h1,h2,h3⟩|⟨h1,h2,h3⟩
    · rw [if_pos h1];exact ediv_of h h2 h3
    · rw [if_neg (by omega)]
      exact ediv_of (r:= -r) (by rw [h,Int.neg_mul];omega) (by omega) (by omega)
  refine ⟨e,?_⟩
  unfold fr;rw [e];omega
theorem abs_split (x y:Int):(x.natAbs:Int)=(y.natAbs:Int)*((x.natAbs / y.natAbs:Nat):Int)+((x.natAbs%y.natAbs:Nat):Int):=by
  rw [← Int.natCast_mul,←Int.natCast_add,Nat.div_add_mod]
theorem sg_t (n:Int):sg true n= -n:=rfl
theorem sg_f (n:Int):sg false n=n:=rfl
theorem fq_same {x y:Int} (hy:y≠0) (h:decide (x<0)=decide (y<0)):sg false ((x.natAbs / y.natAbs:Nat):Int)=fq x y∧sg (decide (y<0)) ((x.natAbs%y.natAbs:Nat):Int)=fr x y:=by
  have e:=abs_split x y
  have hlt:=Nat.mod_lt x.natAbs (show 0<y.natAbs by omega)
  generalize x.natAbs / y.natAbs=q at*
  generalize x.natAbs%y.natAbs=r at*
  rw [sg_f]
  by_cases hy0:y<0
  · have hx : x < 0 := by simpa [hy0] using h
    rw [decide_eq_true hy0,sg_t]
    have:=fq_of (x:=x) (y:=y) (q:=(q:Int)) (r:= -(r:Int)) (by
      have h1:(y.natAbs:Int)= -y:=by omega
      rw [h1,Int.neg_mul] at e;omega) (.inr (by omega))
    exact ⟨this.1.symm,this.2.symm⟩
  · have hx : ¬ x < 0 := by simpa [hy0] using h
    rw [decide_eq_false hy0,sg_f]
    have:=fq_of (x:=x) (y:=y) (q:=(q:Int)) (r:=(r:Int)) (by
      have h1:(y.natAbs:Int)=y:=by omega
      rw [h1] at e;omega) (.inl (by omega))
    exact ⟨this.1.symm,this.2.symm⟩
theorem fq_even {x y:Int} (hy:y≠0) (h:¬decide (x<0)=decide (y<0)) (hr:x.natAbs%y.natAbs=0):sg true ((x.natAbs / y.natAbs:Nat):Int)=fq x y∧sg (decide (y<0)) ((x.natAbs%y.natAbs:Nat):Int)=fr x y:=by
  have e:=abs_split x y
  rw [hr] at e ⊢
  generalize x.natAbs / y.natAbs=q at*
  rw [sg_t,show sg (decide (y<0)) ((0:Nat):Int)=0 from sg_zero _]
  have hs:x=y*(-(q:Int))+0:=by
    rw [Int.mul_neg]
    by_cases hy0:y<0
    · have hx : ¬ x < 0 := by simpa [hy0] using h
      have h1:(y.natAbs:Int)= -y:=by omega
      rw [h1,Int.neg_mul] at e;omega
    · have hx : x < 0 := by simpa [hy0] using h
      have h1:(y.natAbs:Int)=y:=by omega
      rw [h1] at e;omega
  have:=fq_of hs (by omega)
  exact ⟨this.1.symm,this.2.symm⟩
theorem fq_odd {x y:Int} (hy:y≠0) (h:¬decide (x<0)=decide (y<0)) (hr:x.natAbs%y.natAbs≠0):sg true ((x.natAbs / y.natAbs+1:Nat):Int)=fq x y∧sg (decide (y<0)) ((y.natAbs - x.natAbs%y.natAbs:Nat):Int)=fr x y:=by
  have e:=abs_split x y
  have hlt:=Nat.mod_lt x.natAbs (show 0<y.natAbs by omega)
  generalize x.natAbs / y.natAbs=q at*
  generalize x.natAbs%y.natAbs=r at*
  rw [sg_t]
  by_cases hy0:y<0
  · have hx : ¬ x < 0 := by simpa [hy0] using h
    rw [decide_eq_true hy0,sg_t]
    have:=fq_of (x:=x) (y:=y) (q:= -((q+1:Nat):Int)) (r:= -((y.natAbs - r:Nat):Int)) (by
      have h1:(y.natAbs:Int)= -y:=by omega
      rw [h1,Int.neg_mul] at e
      rw [Int.mul_neg,Int.natCast_add,Int.mul_add];omega) (.inr (by omega))
    exact ⟨this.1.symm,this.2.symm⟩
  · have hx : x < 0 := by simpa [hy0] using h
    rw [decide_eq_false hy0,sg_f]
    have:=fq_of (x:=x) (y:=y) (q:= -((q+1:Nat):Int)) (r:=((y.natAbs - r:Nat):Int)) (by
      have h1:(y.natAbs:Int)=y:=by omega
      rw [h1] at e
      rw [Int.mul_neg,Int.natCast_add,Int.mul_add];omega) (.inl (by omega))
    exact ⟨this.1.symm,this.2.symm⟩
theorem fr_nonneg {x y:Int} (h:0<y):fq x y=x / y∧fr x y=x%y:=by
  have e:fq x y=x / y:=by unfold fq;rw [if_pos h]
  refine ⟨e,?_⟩
  unfold fr;rw [e]
  have:=Int.mul_ediv_add_emod x y;omega
theorem gcd_rest {a b:Nat}:Nat.gcd b (a%b)=Nat.gcd a b:=by rw [Nat.gcd_comm b,←Nat.gcd_rec,Nat.gcd_comm]
theorem ln_mono' {a b:Nat} (h:a≤b):(digs a).length≤(digs b).length:=by
  refine digs_len ?_
  have:=digs_lt b;omega
theorem len_mul_ge {a s:Nat} (h:1≤s):(digs a).length≤(digs (a*s)).length:=ln_mono' (Nat.le_mul_of_pos_right a h)
theorem len_mul_le (a s:Nat):(digs (a*s)).length≤(digs a).length+(digs s).length:=by
  refine digs_len ?_
  rw [Int.natCast_mul,pw_add]
  have h1:(a:Int)*s≤pw (digs a).length*s:=Int.mul_le_mul_of_nonneg_right (Int.le_of_lt (digs_lt a)) (by omega)
  have h2:pw (digs a).length*(s:Int)<pw (digs a).length*pw (digs s).length:=Int.mul_lt_mul_of_pos_left (digs_lt s) (pw_pos _)
  omega
theorem scale_len {b n:Nat} (hn:(digs b).length=n+1) {s:Nat} (hs:s=(1000000000 / ((digs b).getD n 0+1)).toNat):1≤s∧s≤500000000∧(digs (b*s)).length=n+1:=by
  have ht:=digs_top hn
  have ho:=okL_getD (digs_ok b) n
  have h1:1≤1000000000 / ((digs b).getD n 0+1):=by
    refine Int.le_ediv_of_mul_le (by omega) (by omega)
  have h2:1000000000 / ((digs b).getD n 0+1)≤500000000:=by
    refine Int.ediv_le_of_le_mul (by omega) (by omega)
  have hs1:(s:Int)=1000000000 / ((digs b).getD n 0+1):=by rw [hs];exact Int.toNat_of_nonneg (by omega)
  refine ⟨by omega,by omega,?_⟩
  have hge:=len_mul_ge (a:=b) (s:=s) (by omega)
  have hle:(digs (b*s)).length≤n+1:=by
    refine digs_len ?_
    have hv:=valL_digs b
    have hc:=valL_cut (digs b) n (by omega)
    have hd:valL ((digs b).drop n)=(digs b).getD n 0:=by rw [valL_drop,List.drop_eq_nil_of_le (by omega)];simp [valL]
    have hl:=valL_take_lt (digs_ok b) n
    rw [hd] at hc
    have hp:=pw_pos n
    have hb:(b:Int)<((digs b).getD n 0+1)*pw n:=by rw [Int.add_mul,Int.mul_comm _ (pw n)];omega
    have hm:((digs b).getD n 0+1)*(s:Int)≤1000000000:=by rw [hs1];exact Int.mul_ediv_self_le (by omega)
    rw [Int.natCast_mul,pw_succ]
    have h3:(b:Int)*s<((digs b).getD n 0+1)*pw n*s:=Int.mul_lt_mul_of_pos_right hb (by omega)
    have h4:((digs b).getD n 0+1)*pw n*s=((digs b).getD n 0+1)*s*pw n:=by ac_rfl
    have h5:((digs b).getD n 0+1)*(s:Int)*pw n≤1000000000*pw n:=mul_le_of (Int.le_of_lt hp) hm
    omega
  omega
theorem scale_div {a b s:Nat} (hs:1≤s):a*s / (b*s)=a / b∧a*s%(b*s) / s=a%b:=by
  refine ⟨Nat.mul_div_mul_right a b (by omega),?_⟩
  rw [Nat.mul_mod_mul_right,Nat.mul_div_cancel _ (by omega)]
theorem digs_one {s:Nat} (h1:1≤s) (h2:s<1000000000):digs s=[(s:Int)]:=by
  rw [digs_pos (by omega),Nat.mod_eq_of_lt h2,Nat.div_eq_of_lt h2,digs_zero]
theorem mul_lim3 {g x:Int} (h0:0≤g) (h1:g≤2000000000) (h2:0≤x) (h3:x<1000000000):0≤g*x∧g*x≤2000000000000000000:=by
  have a:=Int.mul_nonneg h0 h2
  have b:g*x≤2000000000*x:=mul_le_of h2 h1
  omega
theorem one_digit {b:Nat} (h:(digs b).length=1):(digs b).getD 0 0=(b:Int):=by
  have h1:=valL_cut (digs b) 0 (Nat.zero_le _)
  have h2:=valL_drop (digs b) 0
  rw [List.drop_eq_nil_of_le (show (digs b).length≤0+1 by omega)] at h2
  rw [valL_digs,h2] at h1
  simp [valL,pw_zero] at h1;exact h1.symm
theorem zuf {b:Nat} (h:0<b):1≤(digs b).length:=by
  refine Nat.pos_of_ne_zero fun e=> ?_
  have:=len_digs_nil.1 e;omega
theorem two_lt {a:Nat} (h:(digs a).length≤2):a<1000000000000000000:=by
  have h1:=digs_lt a
  have h2:=pw_mono h
  have:pw 2=1000000000000000000:=by decide
  omega
theorem word_step {A:List Int} (k:Nat):valL (A.drop (k+1))*1000000000+A.getD k 0=valL (A.drop k):=by rw [valL_drop A k];omega
theorem word_keep {a k:Nat} {z:Int} (h:k+1≤(digs a).length) (hz:z=valL ((digs a).drop (k+1))):(z*1000000000+(digs a).getD k 0)*pw k≤(a:Int):=by
  have h1:=valL_cut (digs a) k (by omega)
  rw [valL_digs,valL_drop,←hz] at h1
  have h2:=valL_take_lt (digs_ok a) k
  have:(z*1000000000+(digs a).getD k 0)*pw k=pw k*((digs a).getD k 0+1000000000*z):=by grind
  omega
theorem word_lim {a k:Nat} {z:Int} (hl:(digs a).length≤2) (h:k+1≤(digs a).length) (h0:0≤z) (hp:z*pw (k+1)≤(a:Int)):z<1000000000:=by
  have h1:=two_lt hl
  have h2:=pw_mono (show 1≤k+1 by omega)
  have h3:pw 1=1000000000:=by decide
  refine Decidable.byContradiction fun hc=> ?_
  have h4:1000000000*pw (k+1)≤z*pw (k+1):=mul_le_of (Int.le_of_lt (pw_pos _)) (by omega)
  omega
theorem cmp_b (x y:Int): -1≤cmp x y∧cmp x y≤1:=by unfold cmp;split <;> (try split) <;> decide
theorem cmp_of {x y u v:Int} (h1:x<y↔u<v) (h2:y<x↔v<u):cmp x y=cmp u v:=by
  unfold cmp;simp only [h1,h2]
theorem cmp_flip (x y:Int): - cmp x y=cmp y x:=by
  unfold cmp
  by_cases h1:x<y
  · rw [if_pos h1,if_neg (by omega),if_pos h1];rfl
  · by_cases h2 : y < x
    · rw [if_neg h1,if_pos h2,if_pos h2]
    · rw [if_neg h1,if_neg h2,if_neg h2,if_neg h1];rfl
theorem sign_le {x:Int}:(x<0∧x.sign= -1)∨(x=0∧x.sign=0)∨(0<x∧x.sign=1):=by
  rcases Int.lt_trichotomy x 0 with h|h|h
  · exact .inl ⟨h,Int.sign_eq_neg_one_of_neg h⟩
  · exact .inr (.inl ⟨h,by rw [h];rfl⟩)
  · exact .inr (.inr ⟨h,Int.sign_eq_one_of_pos h⟩)
theorem cmp_signs {x y:Int} (h:x.sign≠y.sign):cmp x y=cmp x.sign y.sign:=by
  have h1:=sign_le (x:=x);have h2:=sign_le (x:=y)
  exact cmp_of (by omega) (by omega)
theorem cmp_neg {x y:Int} (h:¬x.sign≠y.sign) (hx:x<0):cmp x y= - cmp (x.natAbs:Int) (y.natAbs:Int):=by
  have h1:=sign_le (x:=x);have h2:=sign_le (x:=y)
  rw [cmp_flip];exact cmp_of (by omega) (by omega)
theorem cmp_pos {x y:Int} (h:¬x.sign≠y.sign) (hx:¬x<0):cmp x y=cmp (x.natAbs:Int) (y.natAbs:Int):=by
  have h1:=sign_le (x:=x);have h2:=sign_le (x:=y)
  exact cmp_of (by omega) (by omega)
end Go.Proofs.YtjcpbhlijoigfaaGreat.Big
namespace Go.Proofs.YtjcpbhlijoigfaaGreat.Big
structure ScI (A:List Int) (d:Int) (i:Nat) (os:List Int) (cy:Int):Prop where
  le:i≤A.length
  len:os.length=i
  ok:okL os
  c0:0≤cy
  c1:cy<1000000000
  val:valL os+pw i*cy=valL (A.take i)*d
theorem ScI.start (A:List Int) (d:Int):ScI A d 0 [] 0:=⟨Nat.zero_le _,rfl,okL_nil,by decide,by decide,by simp [valL]⟩
theorem sc_lim {x d cy:Int} (hx:0≤x∧x<1000000000) (hd:0≤d∧d<1000000000) (hc:0≤cy∧cy<1000000000):0≤x*d∧x*d+cy<1000000000000000000∧0≤(x*d+cy) / 1000000000∧(x*d+cy) / 1000000000<1000000000:=by
  have:=mul_lim hx hd;omega
theorem ScI.step {A:List Int} {d:Int} {i:Nat} {os:List Int} {cy:Int} (h:ScI A d i os cy) (hA:okL A) (hd:0≤d∧d<1000000000) (hi:i<A.length):
    ScI A d (i+1) (os++[(A.getD i 0*d+cy)%1000000000]) ((A.getD i 0*d+cy) / 1000000000):=by
  have hl:=sc_lim (okL_getD hA i) hd ⟨h.c0,h.c1⟩
  refine ⟨by omega,by simp [h.len],okL_snoc h.ok (by omega) (by omega),hl.2.2.1,hl.2.2.2,?_⟩
  rw [valL_snoc,h.len,valL_take_succ,pw_succ]
  have e:=h.val
  have hs:(A.getD i 0*d+cy)=1000000000*((A.getD i 0*d+cy) / 1000000000)+(A.getD i 0*d+cy)%1000000000:=by omega
  generalize (A.getD i 0*d+cy) / 1000000000=q at*
  generalize (A.getD i 0*d+cy)%1000000000=r at*
  have h2:pw i*(A.getD i 0*d+cy)=pw i*(1000000000*q+r):=by rw [hs]
  generalize A.getD i 0=x at*
  generalize valL os=a at*
  generalize valL (A.take i)=b at*
  generalize pw i=p at*
  grind
theorem ScI.fin {a d i:Nat} {os:List Int} {cy:Int} (h:ScI (digs a) (d:Int) i os cy) (hi:(digs a).length≤i):okL (os++[cy])∧valL (os++[cy])=((a*d:Nat):Int):=by
  refine ⟨okL_snoc h.ok h.c0 h.c1,?_⟩
  rw [valL_snoc,h.len,h.val,List.take_of_length_le hi,valL_digs,Int.natCast_mul]
theorem pair_val {a:Nat} (h:(digs a).length≤2):(digs a).getD 1 0*1000000000+(digs a).getD 0 0=(a:Int):=by
  have h0:=valL_drop (digs a) 0
  have h1:=valL_drop (digs a) 1
  rw [List.drop_zero,valL_digs] at h0
  have h2:valL ((digs a).drop 2)=0:=by rw [List.drop_eq_nil_of_le h];rfl
  simp only [Nat.zero_add,Nat.reduceAdd] at h0 h1
  omega
theorem two_val {u:Nat} (h:u<1000000000000000000):okL [((u%1000000000:Nat):Int),((u / 1000000000:Nat):Int)]∧valL [((u%1000000000:Nat):Int),((u / 1000000000:Nat):Int)]=(u:Int):=by
  refine ⟨okL_cons.2 ⟨by omega,okL_cons.2 ⟨by omega,okL_nil⟩⟩,?_⟩
  simp only [valL];omega
theorem valL_cut' (A:List Int) (k:Nat):valL A=valL (A.take k)+pw k*valL (A.drop k):=by
  by_cases h:k≤A.length
  · exact valL_cut A k h
  · rw [List.drop_eq_nil_of_le (by omega),List.take_of_length_le (by omega)];simp [valL]
structure PtI (A V:Nat) (j:Nat) (qs:List Int) (R:Nat):Prop where
  le:j≤(digs A).length
  ok:okL qs
  val:valL ((digs A).drop j)=valL qs*V+R
  lt:R<V
theorem PtI.start {A V n j R:Nat} (hV:(digs V).length=n+1) (hj:j+n=(digs A).length) (hR:valL ((digs A).drop j)=(R:Int)):PtI A V j [] R:=by
  refine ⟨by omega,okL_nil,by rw [hR];simp [valL],?_⟩
  have h1:=valL_lt (okL_drop (digs_ok A) j)
  rw [hR,List.length_drop,show (digs A).length - j=n by omega] at h1
  have h2:=digs_low (k:=n) (n:=V) (by omega)
  omega
theorem pt_lim {V R d:Nat} (h:R<V) (hd:d<1000000000):R*1000000000+d<V*1000000000:=by omega
theorem PtI.step {A V j:Nat} {qs:List Int} {R d g r:Nat} (h:PtI A V (j+1) qs R) (hd:(digs A).getD j 0=(d:Int)) (hg:r+V*g=R*1000000000+d) (hr:r<V):PtI A V j ((g:Int) :: qs) r:=by
  have hd1:=okL_getD (digs_ok A) j
  have hgl:g<1000000000:=by
    have h1:=pt_lim h.lt (show d<1000000000 by omega)
    exact Nat.lt_of_mul_lt_mul_left (a:=V) (by omega)
  refine ⟨Nat.le_of_succ_le h.le,okL_cons.2 ⟨by omega,h.ok⟩,?_,hr⟩
  rw [valL_drop,h.val,hd]
  simp only [valL]
  have hg2:(r:Int)+(V:Int)*(g:Int)=(R:Int)*1000000000+(d:Int):=by
    rw [← Int.natCast_mul];omega
  generalize valL qs=q at*
  grind
theorem pt_guess {W V m d:Nat} (hW:W<V*1000000000) (hV:(digs V).length=m+1) (hd:(d:Int)=((digs W).getD (m+1) 0*1000000000+(digs W).getD m 0) / ((digs V).getD m 0+1)):V*d≤W∧d<1000000000:=by
  have hw:=valL_cut' (digs W) m
  have hv:=valL_cut' (digs V) m
  rw [valL_digs] at hw hv
  have h1:=valL_drop (digs W) m
  have h2:=valL_drop (digs W) (m+1)
  have h3:=valL_nonneg (okL_drop (digs_ok W) (m+1+1))
  have h4:=valL_drop (digs V) m
  rw [List.drop_eq_nil_of_le (by omega:(digs V).length≤m+1)] at h4
  have h5:=valL_take_lt (digs_ok W) m
  have h6:=valL_take_lt (digs_ok V) m
  have h7:=okL_getD (digs_ok V) m
  have hp:=pw_pos m
  have h8:valL ([]:List Int)=0:=rfl
  have h9:=Int.mul_ediv_self_le (x:=(digs W).getD (m+1) 0*1000000000+(digs W).getD m 0) (k:=(digs V).getD m 0+1) (by omega)
  rw [← hd] at h9
  have key:(V:Int)*(d:Int)≤(W:Int):=by
    have a1:(V:Int)≤((digs V).getD m 0+1)*pw m:=by
      rw [h8,Int.mul_zero,Int.add_zero] at h4;rw [hv,h4,Int.add_mul,Int.one_mul,Int.mul_comm (pw m)];omega
    have a2:((digs W).getD (m+1) 0*1000000000+(digs W).getD m 0)*pw m≤(W:Int):=by
      have:(digs W).getD (m+1) 0*1000000000+(digs W).getD m 0≤valL ((digs W).drop m):=by omega
      have:=mul_le_of (Int.le_of_lt hp) this
      rw [Int.mul_comm (valL _)] at this;omega
    have a3:=mul_le_of (w:=(d:Int)) (by omega) a1
    have a4:=mul_le_of (Int.le_of_lt hp) h9
    have a5:((digs V).getD m 0+1)*pw m*(d:Int)=((digs V).getD m 0+1)*(d:Int)*pw m:=by grind
    omega
  have k2:V*d≤W:=by rw [← Int.natCast_mul] at key;omega
  exact ⟨k2,Nat.lt_of_mul_lt_mul_left (a:=V) (by omega)⟩
theorem PtI.fin {A V:Nat} {qs:List Int} {R:Nat} (h:PtI A V 0 qs R):valL qs=((A / V:Nat):Int)∧R=A%V:=by
  have h0:=h.val
  rw [List.drop_zero,valL_digs] at h0
  have hn:=valL_nonneg h.ok
  have hl:=h.lt
  obtain ⟨q,hq⟩:∃q:Nat,valL qs=(q:Int):=⟨(valL qs).toNat,by omega⟩
  rw [hq,←Int.natCast_mul] at h0
  have h1:A=R+V*q:=by rw [Nat.mul_comm];omega
  rw [hq,h1,Nat.add_mul_div_left _ _ (by omega),Nat.div_eq_of_lt hl,Nat.add_mul_mod_self_left,Nat.mod_eq_of_lt hl]
  simp
theorem pt_wlen {W V m:Nat} (hW:W<V*1000000000) (hV:(digs V).length=m+1):(digs W).length≤m+2:=by
  refine digs_len ?_
  have h1:=digs_lt V
  rw [hV] at h1
  rw [pw_succ];omega
theorem made_nat {l:List Int} {n:Nat} (ho:okL l) (h:valL l=(n:Int)):(sg false (valL l)).natAbs=n:=by
  rw [sg_abs (valL_nonneg ho),h];exact Int.toNat_natCast _
theorem ln_fq {x y:Int} (hy:y≠0):ln (fq x y)≤ln x+2:=by
  have key:(fq x y).natAbs≤x.natAbs+1:=by
    have hd:=Nat.div_le_self x.natAbs y.natAbs
    by_cases h:decide (x<0)=decide (y<0)
    · rw [← (fq_same hy h).1,sg_f,Int.natAbs_natCast];omega
    · by_cases hr : x.natAbs % y.natAbs = 0
      · rw [← (fq_even hy h hr).1,sg_t,Int.natAbs_neg,Int.natAbs_natCast];omega
      · rw [← (fq_odd hy h hr).1,sg_t,Int.natAbs_neg,Int.natAbs_natCast];omega
  unfold ln
  have h1:=ln_mono' key
  have h2:=len_add x.natAbs 1
  have h3:(digs 1).length=1:=by decide
  omega
end Go.Proofs.YtjcpbhlijoigfaaGreat.Big
namespace Go.Proofs.YtjcpbhlijoigfaaGreat.Big
abbrev RQ:=(Bool×List Int)×(Bool×List Int)
def qok (x:RQ):Prop:=canon x.1.1 x.1.2∧canon x.2.1 x.2.2∧0<raw x.2.1 x.2.2∧Nat.gcd (raw x.1.1 x.1.2).natAbs (raw x.2.1 x.2.2).natAbs=1
instance (x:RQ):Decidable (qok x):=inferInstanceAs (Decidable (_∧_))
def qv (x:RQ):Rat:=if qok x then Rat.divInt (raw x.1.1 x.1.2) (raw x.2.1 x.2.2) else 0
theorem divInt_parts {n d:Int} (hd:d≠0):(Rat.divInt n d).num=d.sign*n / (Nat.gcd n.natAbs d.natAbs:Nat)∧((Rat.divInt n d).den:Int)=((d.natAbs / Nat.gcd n.natAbs d.natAbs:Nat):Int):=by
  rw [Rat.num_divInt,Rat.den_divInt,if_neg hd]
  have:Int.gcd d n=Nat.gcd n.natAbs d.natAbs:=by unfold Int.gcd;rw [Nat.gcd_comm]
  rw [this];exact ⟨rfl,rfl⟩
theorem qv_parts {x:RQ} (h:qok x):(qv x).num=raw x.1.1 x.1.2∧((qv x).den:Int)=raw x.2.1 x.2.2:=by
  unfold qv;rw [if_pos h]
  obtain ⟨_,_,h3,h4⟩:=h
  obtain ⟨e1,e2⟩:=divInt_parts (n:=raw x.1.1 x.1.2) (d:=raw x.2.1 x.2.2) (by omega)
  rw [e1,e2,h4,Int.sign_eq_one_of_pos h3]
  refine ⟨by simp,by rw [Nat.div_one];omega⟩
theorem qv_not {x:RQ} (h:¬qok x):qv x=0:=by unfold qv;rw [if_neg h]
def rq (q:Rat):RQ:=((decide (q.num<0),digs q.num.natAbs),(decide ((q.den:Int)<0),digs (q.den:Int).natAbs))
theorem rq_ok (q:Rat):qok (rq q):=by
  refine ⟨canon_digs _,canon_digs _,?_,?_⟩
  · simp only [rq];rw [raw_big];have:=q.den_pos;omega
  · simp only [rq];rw [raw_big,raw_big,Int.natAbs_natCast];exact q.reduced
theorem rq_v (q:Rat):qv (rq q)=q:=by
  obtain ⟨h1,h2⟩:=qv_parts (rq_ok q)
  refine Rat.ext ?_ ?_
  · rw [h1];simp only [rq];rw [raw_big]
  · have : ((qv (rq q)).den : Int) = (q.den : Int) := by rw [h2]; simp only [rq]; rw [raw_big]
    omega
def hq (q:Rat):Nat:=max (ln q.num) (ln (q.den:Int))
theorem hq_num (q:Rat):ln q.num≤hq q:=Nat.le_max_left _ _
theorem hq_den (q:Rat):ln (q.den:Int)≤hq q:=Nat.le_max_right _ _
theorem hq_divInt {n d:Int} (hd:d≠0):hq (Rat.divInt n d)≤max (ln n) (ln d):=by
  obtain ⟨e1,e2⟩:=divInt_parts (n:=n) hd
  unfold hq
  rw [e1,e2]
  have h1:ln (d.sign*n / (Nat.gcd n.natAbs d.natAbs:Nat))≤ln n:=by
    refine zie ?_
    refine Nat.le_trans (Int.natAbs_ediv_le_natAbs _ _) ?_
    rw [Int.natAbs_mul,Int.natAbs_sign_of_ne_zero hd,Nat.one_mul];exact Nat.le_refl _
  have h2:ln ((d.natAbs / Nat.gcd n.natAbs d.natAbs:Nat):Int)≤ln d:=by
    refine zie ?_
    rw [Int.natAbs_natCast];exact Nat.div_le_self _ _
  omega
theorem den_ne (q:Rat):(q.den:Int)≠0:=by have:=q.den_pos;omega
theorem add_parts (x y:Rat):x+y=Rat.divInt (x.num*y.den+y.num*x.den) (x.den*y.den):=by
  rw [Rat.add_def',←Int.natCast_mul,Rat.divInt_ofNat]
theorem mul_parts (x y:Rat):x*y=Rat.divInt (x.num*y.num) (x.den*y.den):=by
  rw [Rat.mul_def',←Int.natCast_mul,Rat.divInt_ofNat]
theorem div_parts {x y:Rat} (hy:y.num≠0):x / y=Rat.divInt (x.num*y.den) (x.den*y.num):=by
  rw [Rat.div_def,Rat.inv_def,←Rat.num_divInt_den x,Rat.divInt_mul_divInt,Rat.num_divInt_den]
theorem hq_add (x y:Rat):hq (x+y)≤hq x+hq y+1:=by
  rw [add_parts]
  refine Nat.le_trans (hq_divInt (Int.mul_ne_zero (den_ne x) (den_ne y))) ?_
  have h1:=zTc (x.num*y.den) (y.num*x.den)
  have h2:=zOa x.num y.den;have h3:=zOa y.num x.den;have h4:=zOa x.den y.den
  have a:=hq_num x;have b:=hq_den x;have c:=hq_num y;have d:=hq_den y
  omega
theorem hq_mul (x y:Rat):hq (x*y)≤hq x+hq y:=by
  rw [mul_parts]
  refine Nat.le_trans (hq_divInt (Int.mul_ne_zero (den_ne x) (den_ne y))) ?_
  have h2:=zOa x.num y.num;have h4:=zOa x.den y.den
  have a:=hq_num x;have b:=hq_den x;have c:=hq_num y;have d:=hq_den y
  omega
theorem num_ne {y:Rat} (h:y≠0):y.num≠0:=fun e=>h (Rat.num_eq_zero.1 e)
theorem hq_div (x:Rat) {y:Rat} (hy:y≠0):hq (x / y)≤hq x+hq y:=by
  rw [div_parts (num_ne hy)]
  refine Nat.le_trans (hq_divInt (Int.mul_ne_zero (den_ne x) (num_ne hy))) ?_
  have h2:=zOa x.num y.den;have h4:=zOa x.den y.num
  have a:=hq_num x;have b:=hq_den x;have c:=hq_num y;have d:=hq_den y
  omega
theorem hq_neg (x:Rat):hq (-x)=hq x:=by unfold hq;rw [Rat.neg_num,Rat.neg_den,zU]
theorem hq_sub (x y:Rat):hq (x - y)≤hq x+hq y+1:=by
  rw [Rat.sub_eq_add_neg];have:=hq_add x (-y);rw [hq_neg] at this;exact this
theorem ln_one:ln 1=1:=by decide
theorem hq_int (z:Int):hq (z:Rat)≤max (ln z) 1:=by
  unfold hq;rw [Rat.num_intCast,Rat.den_intCast];exact Nat.le_of_eq (by rw [show ((1:Nat):Int)=1 from rfl,ln_one])
theorem hq_zero:hq 0=1:=by decide
theorem hq_64 {z:Int} (h1: -9223372036854775808≤z) (h2:z≤9223372036854775807):hq (z:Rat)≤3:=by
  have:=zsg h1 h2;have:=hq_int z;omega
theorem gcd_pos_right {n d:Int} (hd:d≠0):0<Nat.gcd n.natAbs d.natAbs:=Nat.gcd_pos_of_pos_right _ (by omega)
theorem red_pos {n d:Int} (hd:0<d):fq n (Nat.gcd n.natAbs d.natAbs:Nat)=(Rat.divInt n d).num∧fq d (Nat.gcd n.natAbs d.natAbs:Nat)=((Rat.divInt n d).den:Int):=by
  obtain ⟨e1,e2⟩:=divInt_parts (n:=n) (d:=d) (by omega)
  have hg:=gcd_pos_right (n:=n) (d:=d) (by omega)
  rw [e1,e2,Int.sign_eq_one_of_pos hd,Int.one_mul]
  rw [(fr_nonneg (x:=n) (y:=(Nat.gcd n.natAbs d.natAbs:Nat)) (by omega)).1,(fr_nonneg (x:=d) (y:=(Nat.gcd n.natAbs d.natAbs:Nat)) (by omega)).1]
  refine ⟨rfl,?_⟩
  rw [Int.natCast_ediv,Int.natAbs_of_nonneg (by omega)]
theorem red_flip {n d:Int} (hd:d<0):fq (-n) (Nat.gcd (-n).natAbs (-d).natAbs:Nat)=(Rat.divInt n d).num∧fq (-d) (Nat.gcd (-n).natAbs (-d).natAbs:Nat)=((Rat.divInt n d).den:Int):=by
  have:=red_pos (n:= -n) (d:= -d) (by omega)
  rw [Rat.neg_divInt_neg] at this;exact this
theorem fq_negneg (x y:Int) (hy:y≠0):fq x (-y)=fq (-x) y:=by
  unfold fq
  by_cases h:0<y
  · rw [if_neg (by omega),if_pos h,Int.neg_neg]
  · rw [if_pos (by omega),if_neg h,Int.neg_neg]
theorem red_neg {n d:Int} (hd:d<0):fq n (-(Nat.gcd n.natAbs d.natAbs:Nat))=(Rat.divInt n d).num∧fq d (-(Nat.gcd n.natAbs d.natAbs:Nat))=((Rat.divInt n d).den:Int):=by
  have hg:=gcd_pos_right (n:=n) (d:=d) (by omega)
  rw [fq_negneg _ _ (by omega),fq_negneg _ _ (by omega)]
  have:=red_flip (n:=n) hd
  rw [Int.natAbs_neg,Int.natAbs_neg] at this;exact this
def sgq (q:Rat):Int:=q.num.sign
theorem cmp_sub (a b:Int):cmp a b=(a - b).sign:=by
  unfold cmp
  split
  · rw [Int.sign_eq_neg_one_of_neg (by omega)]
  · split
    · rw [Int.sign_eq_one_of_pos (by omega)]
    · rw [show a - b=0 by omega];rfl
theorem sgq_zero {x:Rat}:sgq x=0↔x=0:=by unfold sgq;rw [Int.sign_eq_zero_iff_zero,Rat.num_eq_zero]
theorem sgq_sub_zero {x y:Rat}:sgq (x - y)=0↔x=y:=by
  rw [sgq_zero]
  constructor
  · intro h;grind
  · intro h;grind
theorem sgq_pos {x:Rat}:0<sgq x↔0<x:=by
  unfold sgq
  rw [Int.sign_pos_iff]
  have h:=Rat.num_nonneg (q:=x);have h0:=Rat.num_eq_zero (q:=x)
  constructor
  · intro h1; have h2 := h.1 (by omega); have h3 : x ≠ 0 := fun e => by rw [e] at h1; exact absurd h1 (by decide)
    grind
  · intro h1
    have h2:=h.2 (by grind)
    have h3:x.num≠0:=fun e=>by rw [h0.1 e] at h1;exact absurd h1 (by decide)
    omega
theorem sgq_neg' (x:Rat):sgq (-x)= - sgq x:=by unfold sgq;rw [Rat.neg_num,Int.sign_neg]
theorem sgq_lt {x:Rat}:sgq x<0↔x<0:=by
  have h:=sgq_pos (x:= -x);rw [sgq_neg'] at h
  constructor
  · intro h1;have:=h.1 (by omega);grind
  · intro h1;have:=h.2 (by grind);omega
theorem sgq_le {x:Rat}:sgq x≤0↔x≤0:=by
  have h:=sgq_pos (x:=x)
  constructor
  · intro h1; have : ¬ 0 < x := fun k => by have := h.2 k; omega
    grind
  · intro h1; have : ¬ 0 < sgq x := fun k => by have := h.1 k; grind
    omega
theorem sgq_ge {x:Rat}:0≤sgq x↔0≤x:=by
  have h:=sgq_lt (x:=x)
  constructor
  · intro h1; have : ¬ x < 0 := fun k => by have := h.2 k; omega
    grind
  · intro h1; have : ¬ sgq x < 0 := fun k => by have := h.1 k; grind
    omega
theorem sgq_rng (x:Rat): -1≤sgq x∧sgq x≤1:=by
  unfold sgq
  rcases Int.lt_trichotomy x.num 0 with h|h|h
  · rw [Int.sign_eq_neg_one_of_neg h];decide
  · rw [h];decide
  · rw [Int.sign_eq_one_of_pos h];decide
theorem cmp_zero {x y:Int}:cmp x y=0↔x=y:=by
  unfold cmp;split
  · omega
  · split <;> omega
theorem qok_gcd {x:RQ} (h:canon x.1.1 x.1.2∧canon x.2.1 x.2.2∧0<raw x.2.1 x.2.2):cmp ((Nat.gcd (raw x.1.1 x.1.2).natAbs (raw x.2.1 x.2.2).natAbs:Nat):Int) 1=0↔qok x:=by
  rw [cmp_zero];exact ⟨fun e=>⟨h.1,h.2.1,h.2.2,by omega⟩,fun e=>by have:=e.2.2.2;omega⟩
theorem sgn_le {c d:Prop} {z:Int} (hc:c) (hd:d):z.sign≤0↔¬(c∧d∧0<z):=by
  rcases Int.lt_trichotomy z 0 with h|h|h
  · rw [Int.sign_eq_neg_one_of_neg h];exact ⟨fun _ k=>by omega,fun _=>by decide⟩
  · rw [h];exact ⟨fun _ k=>by omega,fun _=>by decide⟩
  · rw [Int.sign_eq_one_of_pos h];exact ⟨fun k=>by omega,fun k=>absurd ⟨hc,hd,h⟩ k⟩
theorem raw_parts {x:RQ} (h1:nn x.1.2) (h2:nn x.2.2) (h:qok x):decide ((qv x).num<0)=x.1.1∧digs (qv x).num.natAbs=x.1.2∧decide (((qv x).den:Int)<0)=x.2.1∧digs (((qv x).den:Nat):Int).natAbs=x.2.2:=by
  obtain ⟨e1,e2⟩:=qv_parts h
  have d1:=raw_digs (s:=x.1.1) h1;have d2:=raw_digs (s:=x.2.1) h2
  rw [if_pos h.1] at d1;rw [if_pos h.2.1] at d2
  rw [e1,e2]
  exact ⟨raw_sign h1 h.1,d1,raw_sign h2 h.2.1,d2⟩
theorem zLd {n d:Int} (hd:d≠0):ln (Nat.gcd n.natAbs d.natAbs:Nat)≤ln d:=by
  refine zie ?_
  rw [Int.natAbs_natCast];exact Nat.gcd_le_right _ (by omega)
theorem divInt_nil {n d:Int} (hd:d=0):Rat.divInt n d=0:=by rw [hd,Rat.divInt_zero]
theorem div_nil {x y:Rat} (hy:y=0):x / y=0:=by rw [hy,Rat.div_def,Rat.inv_zero,Rat.mul_zero]
theorem sign_zero {z:Int}:z.sign=0↔z=0:=Int.sign_eq_zero_iff_zero
theorem qok_sub {x:RQ} (h:canon x.1.1 x.1.2∧canon x.2.1 x.2.2∧0<raw x.2.1 x.2.2):(((Nat.gcd (raw x.1.1 x.1.2).natAbs (raw x.2.1 x.2.2).natAbs:Nat):Int) - 1).sign=0↔qok x:=by
  rw [← cmp_sub];exact qok_gcd h
theorem den_zero (x y:Rat):(x.den:Int)*y.num=0↔y=0:=by
  constructor
  · intro h; rcases Int.mul_eq_zero.1 h with e | e
    · exact absurd e (den_ne x)
    · exact Rat.num_eq_zero.1 e
  · intro h;rw [h];simp
theorem div_any (x y:Rat):x / y=Rat.divInt (x.num*y.den) (x.den*y.num):=by
  by_cases h:y=0
  · rw [div_nil h,divInt_nil ((den_zero x y).2 h)]
  · exact div_parts (num_ne h)
end Go.Proofs.YtjcpbhlijoigfaaGreat.Big
namespace Go.Proofs.YtjcpbhlijoigfaaGreat.Sp
open Go
set_option linter.unusedVariables false
def Wd.raw (g:Hp) (w:Wd) (x:Bool×List Int):Prop:=w.s=x.1∧w.n=x.2.length∧x.2.length≤1099511627776∧Sl (rI .u32) g w.p w.c x.2
theorem Wd.raw_mono {g g':Hp} {w:Wd} {x:Bool×List Int} (h:g.le g') (k:w.raw g x):w.raw g' x:=⟨k.1,k.2.1,k.2.2.1,k.2.2.2.mono h⟩
def qF (c:Bool) (u v:Wd) (q:Rat):Fa:=⟨fun g=>∃x:Big.RQ,u.raw g x.1∧v.raw g x.2∧Big.qv x=q∧(c=true→Big.qok x),fun _ _ h ⟨x,a,b,d⟩=>⟨x,Wd.raw_mono h a,Wd.raw_mono h b,d⟩⟩
theorem Sl.nn {g:Hp} {p:Option Addr} {c:Nat} {l:List Int} (h:Sl (rI .u32) g p c l):Big.nn l:=fun d hd=>by
  obtain ⟨j,hj⟩:=List.getElem?_of_mem hd
  obtain ⟨_,_,_,_,_,e⟩:=h.2.2.2 j d hj
  exact (zI.1 e).1
theorem Wd.raw_is {g:Hp} {w:Wd} {x:Bool×List Int} (h:w.raw g x) (hc:Big.canon x.1 x.2):w.is g (Big.raw x.1 x.2):=by
  have hn:=h.2.2.2.nn
  have hd:=Big.raw_digs (s:=x.1) hn
  rw [if_pos hc] at hd
  exact ⟨h.1.trans (Big.raw_sign hn hc).symm,by rw [hd];exact h.2.1,by rw [hd];exact h.2.2.2⟩
theorem Wd.is_raw {g:Hp} {w:Wd} {z:Int} (h:w.is g z) (hl:Big.ln z≤1099511627776):w.raw g (decide (z<0),ya z.natAbs):=⟨h.1,h.2.1,hl,h.2.2⟩
section
variable {P : Program} {c : Cx} {n : Sz} {Q : Exit → Act → World → Prop} {m : Fm} {O : List As} {R : List Fa} {f : Nat} {u v : Wd} {q : Rat}
theorem qF_parts {g:Hp} (h:(qF true u v q).on g):u.is g q.num∧v.is g (q.den:Int):=by
  obtain ⟨x,a,b,e,ok⟩:=h
  have hk:=ok rfl
  obtain ⟨e1,e2⟩:=Big.qv_parts hk
  rw [← e,e1,e2]
  exact ⟨Wd.raw_is a hk.1,Wd.raw_is b hk.2.1⟩
theorem qF_open (i:Nat) (hi:R[i]? =some (qF true u v q)):∀g,Holds g R→∃x:Unit,True∧Holds g [zF u q.num,zF v (q.den:Int)]:=fun g h=>
  ⟨(),trivial,(qF_parts (Holds.get i hi h)).1,(qF_parts (Holds.get i hi h)).2,trivial⟩
theorem qF_make {g:Hp} (h1:u.is g q.num) (h2:v.is g (q.den:Int)) (hl:Big.hq q≤1099511627776):(qF true u v q).on g:=
  ⟨Big.rq q,Wd.is_raw h1 (Nat.le_trans (Big.hq_num q) hl),Wd.is_raw h2 (Nat.le_trans (Big.hq_den q) hl),Big.rq_v q,fun _=>Big.rq_ok q⟩
theorem qF_close (i j:Nat) {a b:Int} (hi:R[i]? =some (zF u a)) (hj:R[j]? =some (zF v b)) (h:a=q.num∧b=(q.den:Int)∧Big.hq q≤1099511627776):∀g,Holds g R→(qF true u v q).on g:=fun g r=>by
  have h1:u.is g a:=Holds.get i hi r
  have h2:v.is g b:=Holds.get j hj r
  rw [h.1] at h1;rw [h.2.1] at h2
  exact qF_make h1 h2 h.2.2
theorem qF_len {g:Hp} {k:Bool} (h:(qF k u v q).on g):Big.hq q≤1099511627776:=by
  obtain ⟨x,a,b,e,ok⟩:=h
  by_cases hk:Big.qok x
  · obtain ⟨e1, e2⟩ := Big.qv_parts hk
    rw [← e]
    unfold Big.hq Big.ln
    rw [e1,e2]
    have h1:=Big.raw_digs (s:=x.1.1) a.2.2.2.nn
    have h2:=Big.raw_digs (s:=x.2.1) b.2.2.2.nn
    rw [if_pos hk.1] at h1;rw [if_pos hk.2.1] at h2
    rw [h1,h2]
    have:=a.2.2.1;have:=b.2.2.1;omega
  · rw [Big.qv_not hk] at e
    rw [← e,Big.hq_zero];omega
theorem qF_none (g:Hp):(qF false wz wz 0).on g:=⟨((false,[]),(false,[])),⟨rfl,rfl,by decide,Sl.nil _ _⟩,⟨rfl,rfl,by decide,Sl.nil _ _⟩,by decide +kernel,fun h=>by cases h⟩
abbrev rawL (p:Option Addr) (c:Nat) (x:Bool×List Int):List Value:=[.bool x.1,.slice p x.2.length c]
theorem Wd.rawL_eq {g:Hp} {w:Wd} {x:Bool×List Int} (h:w.raw g x):[w.b,w.l]=rawL w.p w.c x:=by rw [Wd.b,Wd.l,h.1,h.2.1]
theorem zjg {k:Bool} {Y:Type} {φ:Y→Prop} {val:Y→Value} {O':Y→List As} {R':Y→List Fa}
    (h:∀(x:Big.RQ),Big.qv x=q→(k=true→Big.qok x)→x.1.2.length≤1099511627776→x.2.2.length≤1099511627776→Con P f [.agg #[.bool x.1.1,.slice u.p x.1.2.length u.c,.bool x.2.1,.slice v.p x.2.2.length v.c]] O [slF (rI .u32) u.p u.c x.1.2,slF (rI .u32) v.p v.c x.2.2] φ val O' R'):
    Con P f [.agg #[u.b,u.l,v.b,v.l]] O [qF k u v q] φ val O' R':=
  Con.of (X:=Big.RQ) (ψ:=fun x=>Big.qv x=q∧(k=true→Big.qok x)∧x.1.2.length≤1099511627776∧x.2.2.length≤1099511627776) (A2:=fun x=>[.agg #[.bool x.1.1,.slice u.p x.1.2.length u.c,.bool x.2.1,.slice v.p x.2.2.length v.c]]) (R2:=fun x=>[slF (rI .u32) u.p u.c x.1.2,slF (rI .u32) v.p v.c x.2.2])
    (fun x hx=>h x hx.1 hx.2.1 hx.2.2.1 hx.2.2.2) fun g r=>by
      obtain ⟨x,a,b,e,ok⟩:=r.1
      refine ⟨x,⟨e,ok,a.2.2.1,b.2.2.1⟩,?_,a.2.2.2,b.2.2.2,trivial⟩
      have h1:=Wd.rawL_eq a;have h2:=Wd.rawL_eq b
      simp only [rawL,List.cons.injEq,and_true] at h1 h2
      rw [h1.1,h1.2,h2.1,h2.2]
theorem zvf {k:Bool} {Y:Type} {φ:Y→Prop} {val:Y→Value} {O':Y→List As} {R':Y→List Fa}
    (h:∀(x:Big.RQ),Big.qv x=q→(k=true→Big.qok x)→x.1.2.length≤1099511627776→x.2.2.length≤1099511627776→Big.hq q≤1099511627776→Con P f [.agg #[.bool x.1.1,.slice u.p x.1.2.length u.c,.bool x.2.1,.slice v.p x.2.2.length v.c]] O [slF (rI .u32) u.p u.c x.1.2,slF (rI .u32) v.p v.c x.2.2] φ val O' R'):
    Con P f [.agg #[u.b,u.l,v.b,v.l]] O [qF k u v q] φ val O' R':=fun w hh g s r ap h1 h2=>
  zjg (fun x a b c d=>h x a b c d (qF_len r.1)) w hh g s r ap h1 h2
theorem con_qr {A:List Value} {z d:Int} (h:Con P f A O R (Y:=Option Addr×Nat×Option Addr×Nat) (fun _=>True) (fun y=> .agg #[.bool (decide (z<0)),.slice y.1 (ya z.natAbs).length y.2.1,.bool (decide (d<0)),.slice y.2.2.1 (ya d.natAbs).length y.2.2.2]) (fun _=>[]) (fun y=>[bigS z y.1 y.2.1,bigS d y.2.2.1 y.2.2.2]))
    (hz:z=q.num) (hd:d=(q.den:Int)) (hl:Big.hq q≤1099511627776):Con P f A O R (Y:=Wd×Wd) (fun _=>True) (fun w=> .agg #[w.1.b,w.1.l,w.2.b,w.2.l]) (fun _=>[]) (fun w=>[qF true w.1 w.2 q]):=
  h.told (fun y=>(⟨decide (z<0),y.1,(ya z.natAbs).length,y.2.1⟩,⟨decide (d<0),y.2.2.1,(ya d.natAbs).length,y.2.2.2⟩)) (fun _=>rfl) (fun _ _=>trivial) (fun _=>rfl)
    (fun y _ g r=>⟨qF_make (q:=q) ⟨by rw [hz],by rw [hz],hz ▸ r.1⟩ ⟨by rw [hd],by rw [hd],hd ▸ r.2.1⟩ hl,trivial⟩)
theorem zwf {A:List Value} {z d:Int} {k:Value} (h:Con P f A O R (Y:=Option Addr×Nat×Option Addr×Nat) (fun _=>True) (fun y=> .tuple #[.agg #[.bool (decide (z<0)),.slice y.1 (ya z.natAbs).length y.2.1],.agg #[.bool (decide (d<0)),.slice y.2.2.1 (ya d.natAbs).length y.2.2.2],k]) (fun _=>[]) (fun y=>[bigS z y.1 y.2.1,bigS d y.2.2.1 y.2.2.2])):
    Con P f A O R (Y:=Wd×Wd) (fun _=>True) (fun w=> .tuple #[.agg #[w.1.b,w.1.l],.agg #[w.2.b,w.2.l],k]) (fun _=>[]) (fun w=>[zF w.1 z,zF w.2 d]):=
  h.told (fun y=>(⟨decide (z<0),y.1,(ya z.natAbs).length,y.2.1⟩,⟨decide (d<0),y.2.2.1,(ya d.natAbs).length,y.2.2.2⟩)) (fun _=>rfl) (fun _ _=>trivial) (fun _=>rfl)
    (fun y _ g r=>⟨⟨rfl,rfl,r.1⟩,⟨rfl,rfl,r.2.1⟩,trivial⟩)
theorem qF_rawI {s t:Bool} {p1 p2:Option Addr} {n1 c1 n2 c2:Nat} {l1 l2:List Int} (i j:Nat) (hi:R[i]? =some (slF (rI .u32) p1 c1 l1)) (hj:R[j]? =some (slF (rI .u32) p2 c2 l2)) (hn1:l1.length=n1) (hn2:l2.length=n2) (hm1:n1≤1099511627776) (hm2:n2≤1099511627776) (hq:Big.qok ((s,l1),(t,l2))):
    ∀g,Holds g R→(qF true ⟨s,p1,n1,c1⟩ ⟨t,p2,n2,c2⟩ (Big.qv ((s,l1),(t,l2)))).on g:=fun g r=>by
  subst hn1;subst hn2
  exact ⟨((s,l1),(t,l2)),⟨rfl,rfl,hm1,Holds.get i hi r⟩,⟨rfl,rfl,hm2,Holds.get j hj r⟩,rfl,fun _=>hq⟩
end
section
variable {P : Program} {c : Cx} {m : Fm} {O : List As} {R : List Fa}
end
section
variable {P : Program} {n : Sz} {m : Fm} {d : Option Tmp} {ty : TypeId} {ps : String} {af : Array Edge} {gd : Option (Nat × Bool)}
end
end Go.Proofs.YtjcpbhlijoigfaaGreat.Sp
namespace Go.Proofs.YtjcpbhlijoigfaaGreat.Sp
open Go
set_option linter.unusedVariables false
theorem kr {p:Prop} (h:p:=by kernel_rfl):p:=h
theorem ass {p:Prop} (h:p:=by assumption):p:=h
theorem cbb {p:Prop} (h:p:=by first|rfl|assumption|omega|(simp;done)|(simp;omega)|(simp_all;done)):p:=h
theorem cbo {p:Prop} (h:p:=by first|rfl|assumption|omega):p:=h
theorem cbs {p:Prop} (h:p:=by first|rfl|assumption|(simp_all;done)|omega):p:=h
theorem cbu {p:Prop} (h:p:=by first|(simp_all;done)|(simp_all;omega)|(simp;omega)|omega):p:=h
theorem om {p:Prop} (h:p:=by omega):p:=h
theorem dd {p:Prop} (h:p:=by decide):p:=h
theorem aq {α:Type} {l m:List α}:List.append l m=l++m:=rfl
theorem nq {α:Type} {l:List α}:[]++l=l:=rfl
theorem cq {α:Type} {a:α} {l m:List α}:a :: l++m=a :: (l++m):=rfl
theorem Slc.t2 {cells:List Value} {k:Nat} {cs:List Value} {a b:Value} (h:Slc cells 0 k cs):Slc (a :: b :: cells) 0 (k+2) (a :: b :: cs):= .take (.take h)
theorem Slc.t4 {cells:List Value} {k:Nat} {cs:List Value} {a b c d:Value} (h:Slc cells 0 k cs):Slc (a :: b :: c :: d :: cells) 0 (k+4) (a :: b :: c :: d :: cs):= .t2 (.t2 h)
theorem Slc.t8 {cells:List Value} {k:Nat} {cs:List Value} {a b c d e f g i:Value} (h:Slc cells 0 k cs):Slc (a :: b :: c :: d :: e :: f :: g :: i :: cells) 0 (k+8) (a :: b :: c :: d :: e :: f :: g :: i :: cs):= .t4 (.t4 h)
theorem Slc.s2 {cells:List Value} {k off:Nat} {cs:List Value} {a b:Value} (h:Slc cells off k cs):Slc (a :: b :: cells) (off+2) k cs:= .skip (.skip h)
theorem Slc.s4 {cells:List Value} {k off:Nat} {cs:List Value} {a b c d:Value} (h:Slc cells off k cs):Slc (a :: b :: c :: d :: cells) (off+4) k cs:= .s2 (.s2 h)
theorem Slc.s8 {cells:List Value} {k off:Nat} {cs:List Value} {a b c d e f g i:Value} (h:Slc cells off k cs):Slc (a :: b :: c :: d :: e :: f :: g :: i :: cells) (off+8) k cs:= .s4 (.s4 h)
theorem Upd.t2 {cells news cells':List Value} {a b a' b':Value} (h:Upd cells 0 news cells'):Upd (a :: b :: cells) 0 (a' :: b' :: news) (a' :: b' :: cells'):= .take (.take h)
theorem Upd.t4 {cells news cells':List Value} {a b c d a' b' c' d':Value} (h:Upd cells 0 news cells'):Upd (a :: b :: c :: d :: cells) 0 (a' :: b' :: c' :: d' :: news) (a' :: b' :: c' :: d' :: cells'):= .t2 (.t2 h)
theorem Upd.t8 {cells news cells':List Value} {a b c d e f g i a' b' c' d' e' f' g' i':Value} (h:Upd cells 0 news cells'):Upd (a :: b :: c :: d :: e :: f :: g :: i :: cells) 0 (a' :: b' :: c' :: d' :: e' :: f' :: g' :: i' :: news) (a' :: b' :: c' :: d' :: e' :: f' :: g' :: i' :: cells'):= .t4 (.t4 h)
theorem Upd.s2 {cells news cells':List Value} {off:Nat} {a b:Value} (h:Upd cells off news cells'):Upd (a :: b :: cells) (off+2) news (a :: b :: cells'):= .skip (.skip h)
theorem Upd.s4 {cells news cells':List Value} {off:Nat} {a b c d:Value} (h:Upd cells off news cells'):Upd (a :: b :: c :: d :: cells) (off+4) news (a :: b :: c :: d :: cells'):= .s2 (.s2 h)
theorem Upd.s8 {cells news cells':List Value} {off:Nat} {a b c d e f g i:Value} (h:Upd cells off news cells'):Upd (a :: b :: c :: d :: e :: f :: g :: i :: cells) (off+8) news (a :: b :: c :: d :: e :: f :: g :: i :: cells'):= .s4 (.s4 h)
variable {P : Program} {ops : Array Oper} {Q : Exit → Act → World → Prop} {c : Cx} {n : Sz} {wi k : Nat} {L : Array Bool} {m : Fm} {OW O : List As} {R : List Fa} {op : Op} {t0 : Tmp} {ty : TypeId} {ps : String} {af : Array Edge} {gd : Option (Nat × Bool)}
def ckD (ops:Array Oper) (L:Array Bool) (wi i:Nat):Bool:= !(Nat.beq i wi)&&(Region.free .any ops L i&&(Region.ready .any ops L).contains i)
theorem ckD_out {i:Nat} (h:ckD ops L wi i=true):Nat.beq i wi=false∧Region.free .any ops L i=true∧(Region.ready .any ops L).contains i=true:=by
  unfold ckD at h
  rw [Bool.and_eq_true,Bool.and_eq_true,Bool.not_eq_true'] at h
  exact h
def ckW (ops:Array Oper) (L:Array Bool) (wi i:Nat):Bool:=depB ops wi i&&ckD ops L wi i
theorem ckW_out {i:Nat} (h:ckW ops L wi i=true):depB ops wi i=true∧Nat.beq i wi=false∧Region.free .any ops L i=true∧(Region.ready .any ops L).contains i=true:=by
  unfold ckW at h
  rw [Bool.and_eq_true] at h
  exact ⟨h.1,ckD_out h.2⟩
theorem e_pv (i:Nat) (hi:ops[i]? =some ⟨some t0,op,ty,ps,af,gd⟩) (hw':wnt ops m ⟨some t0,op,ty,ps,af,gd⟩=some true) {v:Value} (h:PV P n ⟨some t0,op,ty,ps,af,gd⟩ m v)
    (kont:RunD P ops Q c n wi k (L.setIfInBounds i true) ((t0,v) :: m) OW O R) (hd:Nat.ble (t0+1) n.sz=true:=by exact rfl) (ck:ckD ops L wi i=true:=by kernel_rfl):RunD P ops Q c n wi (k+1) L m OW O R:=
  d_pv i hi (ckD_out ck).1 (ckD_out ck).2.1 (ckD_out ck).2.2 hw' hd h kont
theorem e_dm (i:Nat) {x:Operand} (hi:ops[i]? =some ⟨some t0,.move x,ty,ps,af,gd⟩) (hw':wnt ops m ⟨some t0,.move x,ty,ps,af,gd⟩=some true) {v:Value} (h:evo m x=some v)
    (kont:RunD P ops Q c n wi k (L.setIfInBounds i true) ((t0,v) :: m) OW O R) (hd:Nat.ble (t0+1) n.sz=true:=by exact rfl) (ck:ckD ops L wi i=true:=by kernel_rfl):RunD P ops Q c n wi (k+1) L m OW O R:=
  d_pv i hi (ckD_out ck).1 (ckD_out ck).2.1 (ckD_out ck).2.2 hw' hd (zaa h) kont
theorem e_skip (i:Nat) (hi:ops[i]? =some ⟨some t0,op,ty,ps,af,gd⟩) (hw':wnt ops m ⟨some t0,op,ty,ps,af,gd⟩=some false)
    (kont:RunD P ops Q c n wi k (L.setIfInBounds i true) ((t0,undef) :: m) OW O R) (hd:Nat.ble (t0+1) n.sz=true:=by exact rfl) (ck:ckD ops L wi i=true:=by kernel_rfl):RunD P ops Q c n wi (k+1) L m OW O R:=
  d_skip i hi (ckD_out ck).1 (ckD_out ck).2.1 (ckD_out ck).2.2 hw' hd kont
theorem e_u (i:Nat) (hi:ops[i]? =some ⟨some t0,op,ty,ps,af,gd⟩) (hw':wnt ops m ⟨some t0,op,ty,ps,af,gd⟩=some true) {v:Value} (h:Vl P n ⟨some t0,op,ty,ps,af,gd⟩ m O R (Y:=Unit) (fun _=>True) (fun _=>v) (fun _=>[]))
    (kont:RunD P ops Q c n wi k (L.setIfInBounds i true) ((t0,v) :: m) OW O R) (hd:Nat.ble (t0+1) n.sz=true:=by exact rfl) (ck:ckD ops L wi i=true:=by kernel_rfl):RunD P ops Q c n wi (k+1) L m OW O R:=
  d_u i hi (ckD_out ck).1 (ckD_out ck).2.1 (ckD_out ck).2.2 hw' hd h kont
theorem e_uw (i:Nat) (hi:ops[i]? =some ⟨some t0,op,ty,ps,af,gd⟩) (hw':wnt ops m ⟨some t0,op,ty,ps,af,gd⟩=some true) {v:Value} (h:Vl P n ⟨some t0,op,ty,ps,af,gd⟩ m (OW++O) R (Y:=Unit) (fun _=>True) (fun _=>v) (fun _=>[]))
    (kont:RunD P ops Q c n wi k (L.setIfInBounds i true) ((t0,v) :: m) OW O R) (hd:Nat.ble (t0+1) n.sz=true:=by exact rfl) (ck:ckW ops L wi i=true:=by kernel_rfl):RunD P ops Q c n wi (k+1) L m OW O R:=
  d_uw i hi (ckW_out ck).2.1 (ckW_out ck).1 (ckW_out ck).2.2.1 (ckW_out ck).2.2.2 hw' hd h kont
theorem e_one (i:Nat) (h:RunO P ops Q c n wi k L i m OW O R) (hr:Region.ready .any ops L=[i]:=by kernel_rfl):RunD P ops Q c n wi (k+1) L m OW O R:=zya i hr h
section
variable {ro : Option Nat} {l : List Oper} {t : Tmp}
theorem e_p {v:Value} (h:PV P n ⟨some t,op,ty,ps,af,gd⟩ m v) (kont:RunL (ro:=ro) P ops Q c n l ((t,v) :: m) O R) (hw:wnt ops m ⟨some t,op,ty,ps,af,gd⟩=some true:=by exact rfl) (hd:Nat.ble (t+1) n.sz=true:=by exact rfl):RunL (ro:=ro) P ops Q c n (⟨some t,op,ty,ps,af,gd⟩ :: l) m O R:=r_pv hw hd h kont
theorem e_mv {x:Operand} {v:Value} (h:evo m x=some v) (kont:RunL (ro:=ro) P ops Q c n l ((t,v) :: m) O R) (hw:wnt ops m ⟨some t,.move x,ty,ps,af,gd⟩=some true:=by exact rfl) (hd:Nat.ble (t+1) n.sz=true:=by exact rfl):RunL (ro:=ro) P ops Q c n (⟨some t,.move x,ty,ps,af,gd⟩ :: l) m O R:=r_pv hw hd (zaa h) kont
theorem e_no (kont:RunL (ro:=ro) P ops Q c n l ((t,undef) :: m) O R) (hw:wnt ops m ⟨some t,op,ty,ps,af,gd⟩=some false:=by exact rfl) (hd:Nat.ble (t+1) n.sz=true:=by exact rfl):RunL (ro:=ro) P ops Q c n (⟨some t,op,ty,ps,af,gd⟩ :: l) m O R:=zQe hw hd kont
theorem e_ru {v:Value} (h:Vl P n ⟨some t,op,ty,ps,af,gd⟩ m O R (Y:=Unit) (fun _=>True) (fun _=>v) (fun _=>[])) (kont:RunL (ro:=ro) P ops Q c n l ((t,v) :: m) O R) (hw:wnt ops m ⟨some t,op,ty,ps,af,gd⟩=some true:=by exact rfl) (hd:Nat.ble (t+1) n.sz=true:=by exact rfl):RunL (ro:=ro) P ops Q c n (⟨some t,op,ty,ps,af,gd⟩ :: l) m O R:=r_u hw hd h kont
end
theorem tt9:True:=trivial
theorem cgs {p:Prop} (h:p:=by first|rfl|(congr 1;omega)|simp_all):p:=h
theorem oN {O:List As}:PickO [] O []:= .n
theorem sN {R:List Fa}:SelR [] R []:=trivial
theorem mR {m l:Fm} (h:lkAll m (l.map Prod.fst)=l.map (fun p=>some p.2)):SubM l m:= .of h
theorem s0 {R:List Fa} {r:Fa} (h:R[0]? =some r):SelR [0] R [r]:=⟨h,trivial⟩
theorem o0 {O:List As} {A:As} (h:O[0]? =some A):PickO [0] O [A]:= .c h .n
end Go.Proofs.YtjcpbhlijoigfaaGreat.Sp
namespace Go.Proofs.YtjcpbhlijoigfaaGreat.Ms
set_option linter.unusedVariables false
abbrev V3:=Int×Int×Int
section
variable {α : Type}
theorem drop_cons {l:List α} {i:Nat} (d:α) (h:i<l.length):l.drop i=l.getD i d :: l.drop (i+1):=by
  rw [List.drop_eq_getElem_cons h];simp [List.getD,List.getElem?_eq_getElem h]
theorem take_snoc {l:List α} {i:Nat} (d:α) (h:i<l.length):l.take (i+1)=l.take i++[l.getD i d]:=by
  rw [List.take_add_one];simp [List.getD,List.getElem?_eq_getElem h]
theorem ext_getD {l m:List α} (d:α) (hl:l.length=m.length) (h:∀j,j<l.length→l.getD j d=m.getD j d):l=m:=by
  refine List.ext_getElem hl fun i h1 h2=> ?_
  have:=h i h1
  simpa [List.getD,List.getElem?_eq_getElem h1,List.getElem?_eq_getElem h2] using this
theorem getD_mem {l:List α} {i:Nat} (d:α) (h:i<l.length):l.getD i d∈l:=by
  simp [List.getD,List.getElem?_eq_getElem h]
theorem mem_getD {l:List α} {x:α} (d:α) (h:x∈l):∃j,j<l.length∧l.getD j d=x:=by
  obtain ⟨j,hj,e⟩:=List.getElem_of_mem h
  exact ⟨j,hj,by simp [List.getD,List.getElem?_eq_getElem hj,e]⟩
theorem any_false {l:List α} {f:α→Bool} (d:α) (h:∀j,j<l.length→f (l.getD j d)=false):l.any f=false:=by
  rw [List.any_eq_false]
  intro x hx
  obtain ⟨j,hj,e⟩:=mem_getD d hx
  have:=h j hj
  rw [e] at this;simp [this]
theorem any_true {l:List α} {f:α→Bool} (d:α) {i:Nat} (hi:i<l.length) (h:f (l.getD i d)=true):l.any f=true:=
  List.any_eq_true.2 ⟨_,getD_mem d hi,h⟩
theorem all_lt_succ {P:Nat→Prop} {i:Nat} (h:∀j,j<i→P j) (hi:P i):∀j,j<i+1→P j:=fun j hj=>by
  by_cases e:j=i
  · subst e;exact hi
  · exact h j (by omega)
end
def farI (n:Int):Bool:=decide (n< -0x100000∨0x100000<n)
def far (p:V3):Bool:=[p.1,p.2.1,p.2.2].any farI
def badIx (n:Nat) (f:V3):Bool:=decide (f.1<0∨(n:Int)≤f.1∨f.2.1<0∨(n:Int)≤f.2.1∨f.2.2<0∨(n:Int)≤f.2.2)
def deg (f:V3):Bool:=decide (f.1=f.2.1∨f.2.1=f.2.2∨f.2.2=f.1)
structure Good (V F:List V3):Prop where
  nv:V.length≤512
  nf:F.length≤1024
  far:∀p∈V,far p=false
  ix:∀f∈F,badIx V.length f=false
  dg:∀f∈F,deg f=false
theorem Good.at {V F:List V3} (h:Good V F) {i:Nat} (hi:i<F.length):(0≤(F.getD i (0,0,0)).1∧(F.getD i (0,0,0)).1<V.length)∧(0≤(F.getD i (0,0,0)).2.1∧(F.getD i (0,0,0)).2.1<V.length)∧(0≤(F.getD i (0,0,0)).2.2∧(F.getD i (0,0,0)).2.2<V.length)∧
    (F.getD i (0,0,0)).1≠(F.getD i (0,0,0)).2.1∧(F.getD i (0,0,0)).2.1≠(F.getD i (0,0,0)).2.2∧(F.getD i (0,0,0)).2.2≠(F.getD i (0,0,0)).1:=by
  have h1:=h.ix _ (getD_mem (0,0,0) hi)
  have h2:=h.dg _ (getD_mem (0,0,0) hi)
  simp only [badIx,deg,decide_eq_false_iff_not] at h1 h2
  omega
theorem mul_le {a b A B:Int} (ha: -A≤a∧a≤A) (hb: -B≤b∧b≤B): -(A*B)≤a*b∧a*b≤A*B:=by
  have h1:(a*b).natAbs≤A.natAbs*B.natAbs:=by rw [Int.natAbs_mul];exact Nat.mul_le_mul (by omega) (by omega)
  have hA:A=(A.natAbs:Int):=by omega
  have hB:B=(B.natAbs:Int):=by omega
  have h2:A*B=((A.natAbs*B.natAbs:Nat):Int):=by rw [Int.natCast_mul,←hA,←hB]
  omega
def sub (a b:V3):V3:=(a.1 - b.1,a.2.1 - b.2.1,a.2.2 - b.2.2)
end Go.Proofs.YtjcpbhlijoigfaaGreat.Ms
namespace Go.Proofs.YtjcpbhlijoigfaaGreat.Big
end Go.Proofs.YtjcpbhlijoigfaaGreat.Big
namespace Go.Proofs.YtjcpbhlijoigfaaGreat.Pg
set_option linter.unusedVariables false
abbrev P2:=Int×Int
def crs (a b c:P2):Int:=(b.1 - a.1)*(c.2 - a.2) - (b.2 - a.2)*(c.1 - a.1)
def inR (p:P2):Prop:=(-0x100000≤p.1∧p.1≤0x100000)∧(-0x100000≤p.2∧p.2≤0x100000)
instance (p:P2):Decidable (inR p):=inferInstanceAs (Decidable (_∧_))
def far (p:P2):Bool:=decide (¬inR p)
theorem far_no {p:P2} (h:¬far p=true):inR p:=by unfold far at h;simpa using h
theorem far_no' {p:P2} (h:far p=false):inR p:=far_no (by rw [h];decide)
theorem mul_b {x y m n:Int} (hx: -m≤x∧x≤m) (hy: -n≤y∧y≤n): -(m*n)≤x*y∧x*y≤m*n:=by
  have h1:x.natAbs≤m.natAbs:=by omega
  have h2:y.natAbs≤n.natAbs:=by omega
  have h3:(x*y).natAbs≤m.natAbs*n.natAbs:=by rw [Int.natAbs_mul];exact Nat.mul_le_mul h1 h2
  have h4:((m.natAbs*n.natAbs:Nat):Int)=m*n:=by
    rw [Int.natCast_mul,Int.natAbs_of_nonneg (by omega),Int.natAbs_of_nonneg (by omega)]
  omega
structure Cb (a b c:P2):Prop where
  p1: -17592186044416≤(b.1 - a.1)*(c.2 - a.2)∧(b.1 - a.1)*(c.2 - a.2)≤17592186044416
  p2: -17592186044416≤(b.2 - a.2)*(c.1 - a.1)∧(b.2 - a.2)*(c.1 - a.1)≤17592186044416
  c: -35184372088832≤crs a b c∧crs a b c≤35184372088832
theorem cb {a b c:P2} (ha:inR a) (hb:inR b) (hc:inR c):Cb a b c:=by
  obtain ⟨⟨a1,a2⟩,a3,a4⟩:=ha
  obtain ⟨⟨b1,b2⟩,b3,b4⟩:=hb
  obtain ⟨⟨c1,c2⟩,c3,c4⟩:=hc
  have h1:=mul_b (x:=b.1 - a.1) (y:=c.2 - a.2) (m:=2097152) (n:=2097152) (by omega) (by omega)
  have h2:=mul_b (x:=b.2 - a.2) (y:=c.1 - a.1) (m:=2097152) (n:=2097152) (by omega) (by omega)
  exact ⟨by omega,by omega,by unfold crs;omega⟩
structure Ab (a b:P2):Prop where
  p1: -0x10000000000≤a.1*b.2∧a.1*b.2≤0x10000000000
  p2: -0x10000000000≤b.1*a.2∧b.1*a.2≤0x10000000000
theorem ab {a b:P2} (ha:inR a) (hb:inR b):Ab a b:=by
  obtain ⟨⟨a1,a2⟩,a3,a4⟩:=ha
  obtain ⟨⟨b1,b2⟩,b3,b4⟩:=hb
  have h1:=mul_b (x:=a.1) (y:=b.2) (m:=0x100000) (n:=0x100000) (by omega) (by omega)
  have h2:=mul_b (x:=b.1) (y:=a.2) (m:=0x100000) (n:=0x100000) (by omega) (by omega)
  exact ⟨by omega,by omega⟩
theorem sgn_rng (z:Int): -1≤z.sign∧z.sign≤1:=by
  rcases Int.lt_trichotomy z 0 with h|h|h
  · rw [Int.sign_eq_neg_one_of_neg h];omega
  · rw [h];simp
  · rw [Int.sign_eq_one_of_pos h];omega
theorem sgn_mul (z w:Int): -1≤z.sign*w.sign∧z.sign*w.sign≤1:=by
  have h1:=sgn_rng z
  have h2:=sgn_rng w
  have h:=mul_b (x:=z.sign) (y:=w.sign) (m:=1) (n:=1) (by omega) (by omega)
  omega
def betw (a b p:P2):Prop:=min a.1 b.1≤p.1∧p.1≤max a.1 b.1∧min a.2 b.2≤p.2∧p.2≤max a.2 b.2
instance (a b p:P2):Decidable (betw a b p):=inferInstanceAs (Decidable (_∧_))
def wi (a b x:Int):Prop:=a≤x∧x≤b∨b≤x∧x≤a
instance (a b x:Int):Decidable (wi a b x):=inferInstanceAs (Decidable (_∨_))
theorem betw_wi {a b p:P2}:betw a b p↔wi a.1 b.1 p.1∧wi a.2 b.2 p.2:=by unfold betw wi;omega
def onS (a b p:P2):Prop:=crs a b p=0∧betw a b p
instance (a b p:P2):Decidable (onS a b p):=inferInstanceAs (Decidable (_∧_))
def mt0 (a b c d:P2):Prop:=(crs a b c).sign*(crs a b d).sign<0∧(crs c d a).sign*(crs c d b).sign<0
instance (a b c d:P2):Decidable (mt0 a b c d):=inferInstanceAs (Decidable (_∧_))
def mt1 (a b c d:P2):Prop:=onS a b c∨onS a b d∨onS c d a∨onS c d b
instance (a b c d:P2):Decidable (mt1 a b c d):=inferInstanceAs (Decidable (_∨_))
def mt (a b c d:P2):Prop:=mt0 a b c d∨mt1 a b c d
instance (a b c d:P2):Decidable (mt a b c d):=inferInstanceAs (Decidable (_∨_))
def ck1:List P2→List P2→Int
  |_,[]=>0
  |s,a :: l=>if far a then 2 else if a∈s then 7 else ck1 (s++[a]) l
theorem ck1_step {l:List P2} {i:Nat} (h:i<l.length):ck1 (l.take i) (l.drop i)=if far (l.getD i (0,0)) then 2 else if l.getD i (0,0)∈l.take i then 7 else ck1 (l.take (i+1)) (l.drop (i+1)):=by
  rw [Ms.drop_cons (0,0) h,Ms.take_snoc (0,0) h];rfl
theorem ck1_far {l:List P2} {i:Nat} (h:i<l.length) (hf:far (l.getD i (0,0))=true):ck1 (l.take i) (l.drop i)=2:=by rw [ck1_step h,if_pos hf]
theorem ck1_dup {l:List P2} {i:Nat} (h:i<l.length) (hf:far (l.getD i (0,0))=false) (hd:l.getD i (0,0)∈l.take i):ck1 (l.take i) (l.drop i)=7:=by rw [ck1_step h,if_neg (by rw [hf];decide),if_pos hd]
theorem ck1_go {l:List P2} {i:Nat} (h:i<l.length) (hf:far (l.getD i (0,0))=false) (hd:¬l.getD i (0,0)∈l.take i):ck1 (l.take (i+1)) (l.drop (i+1))=ck1 (l.take i) (l.drop i):=by rw [ck1_step h,if_neg (by rw [hf];decide),if_neg hd]
theorem ck1_end {l:List P2} {i:Nat} (h:l.length≤i):ck1 (l.take i) (l.drop i)=0:=by rw [List.drop_eq_nil_of_le h];rfl
theorem not_take {l:List P2} {i:Nat} (hi:i<l.length) (h:∀j,j<i→¬l.getD i (0,0)=l.getD j (0,0)):¬l.getD i (0,0)∈l.take i:=fun hm=>by
  obtain ⟨j,h1,h2⟩:=Ms.mem_getD (0,0) hm
  rw [List.length_take] at h1
  refine h j (by omega) ?_
  rw [← h2]
  simp only [List.getD_eq_getElem?_getD,List.getElem?_take,if_pos (show j<i by omega)]
theorem in_take {l:List P2} {i j:Nat} (hi:i<l.length) (hj:j<i) (h:l.getD i (0,0)=l.getD j (0,0)):l.getD i (0,0)∈l.take i:=by
  have h1:=Ms.getD_mem (l:=l.take i) (i:=j) (0,0) (by rw [List.length_take];omega)
  have h2:(l.take i).getD j (0,0)=l.getD j (0,0):=by simp only [List.getD_eq_getElem?_getD,List.getElem?_take,if_pos hj]
  rwa [h2,←h] at h1
theorem ck1_zero {l:List P2}:∀{s:List P2},ck1 s l=0→∀x∈l,inR x:=by
  induction l with
  |nil=>intro s _ x hx;cases hx
  |cons a l ih=>
    intro s h x hx
    unfold ck1 at h
    by_cases hf:far a=true
    · rw [if_pos hf] at h;omega
    rw [if_neg hf] at h
    by_cases hd:a∈s
    · rw [if_pos hd] at h;omega
    rw [if_neg hd] at h
    rcases List.mem_cons.1 hx with rfl|hx
    · exact far_no hf
    · exact ih h x hx
abbrev gt (l:List P2) (i:Nat):P2:=l.getD i (0,0)
def smA (n:Nat) (l:List P2) (i:Nat):Prop:=onS (gt l i) (gt l ((i+1)%n)) (gt l ((i+2)%n))∨onS (gt l ((i+1)%n)) (gt l ((i+2)%n)) (gt l i)
instance (n:Nat) (l:List P2) (i:Nat):Decidable (smA n l i):=inferInstanceAs (Decidable (_∨_))
def smB (n:Nat) (l:List P2) (i j:Nat):Prop:=i+2≤j∧(j+1)%n≠i∧mt (gt l i) (gt l ((i+1)%n)) (gt l j) (gt l ((j+1)%n))
instance (n:Nat) (l:List P2) (i j:Nat):Decidable (smB n l i j):=inferInstanceAs (Decidable (_∧_))
def smI (n:Nat) (l:List P2) (i:Nat):Prop:=¬smA n l i∧∀j,j<n→¬smB n l i j
instance (n:Nat) (l:List P2) (i:Nat):Decidable (smI n l i):=inferInstanceAs (Decidable (_∧_))
def smp (l:List P2):Prop:=∀i,i<l.length→smI l.length l i
instance (l:List P2):Decidable (smp l):=inferInstanceAs (Decidable (∀i,i<l.length→_))
def bad (n:Nat) (l:List P2) (i j:Nat):Prop:=
  if j=i+1 then onS (gt l i) (gt l ((i+1)%n)) (gt l ((j+1)%n))∨onS (gt l j) (gt l ((j+1)%n)) (gt l i)
  else if (j+1)%n=i then onS (gt l i) (gt l ((i+1)%n)) (gt l j)∨onS (gt l j) (gt l ((j+1)%n)) (gt l ((i+1)%n))
  else mt (gt l i) (gt l ((i+1)%n)) (gt l j) (gt l ((j+1)%n))
instance (n:Nat) (l:List P2) (i j:Nat):Decidable (bad n l i j):=inferInstanceAs (Decidable (ite ..))
theorem bad_1 {n:Nat} {l:List P2} {i j:Nat} (e:j=i+1):bad n l i j↔onS (gt l i) (gt l ((i+1)%n)) (gt l ((j+1)%n))∨onS (gt l j) (gt l ((j+1)%n)) (gt l i):=by unfold bad;rw [if_pos e]
theorem bad_2 {n:Nat} {l:List P2} {i j:Nat} (e:¬j=i+1) (e2:(j+1)%n=i):bad n l i j↔onS (gt l i) (gt l ((i+1)%n)) (gt l j)∨onS (gt l j) (gt l ((j+1)%n)) (gt l ((i+1)%n)):=by unfold bad;rw [if_neg e,if_pos e2]
theorem bad_3 {n:Nat} {l:List P2} {i j:Nat} (e:¬j=i+1) (e2:¬(j+1)%n=i):bad n l i j↔mt (gt l i) (gt l ((i+1)%n)) (gt l j) (gt l ((j+1)%n)):=by unfold bad;rw [if_neg e,if_neg e2]
def smpR (l:List P2):Prop:=∀i,i<l.length→∀j,j<l.length→i<j→¬bad l.length l i j
instance (l:List P2):Decidable (smpR l):=inferInstanceAs (Decidable (∀i,i<l.length→∀j,j<l.length→_))
theorem smp_iff {l:List P2} (h3:3≤l.length):smp l↔smpR l:=by
  constructor
  · intro h i hi j hj hij hb
    by_cases e:j=i+1
    · rw [bad_1 e] at hb
      refine (h i hi).1 ?_
      unfold smA
      have k1:(i+1)%l.length=j:=by rw [← e,Nat.mod_eq_of_lt hj]
      have k2:(i+2)%l.length=(j+1)%l.length:=by rw [e]
      rw [k2,k1]
      rw [k1] at hb
      exact hb
    by_cases e2:(j+1)%l.length=i
    · rw [bad_2 e e2] at hb
      have hj2:j=l.length - 1:=by
        by_cases e3:j+1<l.length
        · rw [Nat.mod_eq_of_lt e3] at e2;omega
        · omega
      have h9:=(h j hj).1
      have k2:(j+2)%l.length=(i+1)%l.length:=by
        have hi0:i=0:=by rw [← e2,hj2,Nat.sub_add_cancel (by omega),Nat.mod_self]
        rw [show j+2=l.length+(i+1) by omega,Nat.add_mod_left]
      unfold smA at h9
      rw [e2,k2] at h9
      rw [e2] at hb
      exact h9 hb.symm
    · rw [bad_3 e e2] at hb
      exact (h i hi).2 j hj ⟨by omega,e2,hb⟩
  · intro h i hi
    refine ⟨fun hb=> ?_,fun j hj hb=> ?_⟩
    · unfold smA at hb
      by_cases e:i+1<l.length
      · refine h i hi (i + 1) e (by omega) ((bad_1 rfl).2 ?_)
        rw [Nat.mod_eq_of_lt e] at hb ⊢
        exact hb
      · have hi2 : i = l.length - 1 := by omega
        have k0:(i+1)%l.length=0:=by rw [hi2,Nat.sub_add_cancel (by omega),Nat.mod_self]
        have k2:(i+2)%l.length=(0+1)%l.length:=by rw [show i+2=l.length+(0+1) by omega,Nat.add_mod_left]
        refine h 0 (by omega) i hi (by omega) ((bad_2 (by omega) k0).2 ?_)
        rw [k0,k2] at hb
        rw [k0]
        exact hb.symm
    · exact h i hi j hj (by have:=hb.1;omega) ((bad_3 (by have:=hb.1;omega) hb.2.1).2 hb.2.2)
theorem smp_n {l:List P2} {n:Nat} (hn:l.length=n):smp l↔∀i,i<n→smI n l i:=by subst hn;exact Iff.rfl
theorem smpR_n {l:List P2} {n:Nat} (hn:l.length=n):smpR l↔∀i,i<n→∀j,j<n→i<j→¬bad n l i j:=by subst hn;exact Iff.rfl
def ck (l:List P2):Int:=if l.length<3∨64<l.length then 3 else if ck1 [] l≠0 then ck1 [] l else if smp l then 0 else 11
theorem ck_lim {l:List P2} (h:l.length<3∨64<l.length):ck l=3:=by unfold ck;rw [if_pos h]
theorem ck_one {l:List P2} (h:¬(l.length<3∨64<l.length)) (h2:ck1 [] l≠0):ck l=ck1 [] l:=by unfold ck;rw [if_neg h,if_pos h2]
theorem ck_two {l:List P2} (h:¬(l.length<3∨64<l.length)) (h2:ck1 [] l=0) (h3:¬smp l):ck l=11:=by unfold ck;rw [if_neg h,if_neg (by omega),if_neg h3]
theorem ck_ok {l:List P2} (h:¬(l.length<3∨64<l.length)) (h2:ck1 [] l=0) (h3:smp l):ck l=0:=by unfold ck;rw [if_neg h,if_neg (by omega),if_pos h3]
structure Ok (l:List P2):Prop where
  n3:3≤l.length
  n64:l.length≤64
  rng:∀x∈l,inR x
  smp:smp l
theorem ok {l:List P2} (h:ck l=0):Ok l:=by
  unfold ck at h
  by_cases h1:l.length<3∨64<l.length
  · rw [if_pos h1] at h;omega
  rw [if_neg h1] at h
  by_cases h2:ck1 [] l≠0
  · rw [if_pos h2] at h;exact absurd h h2
  rw [if_neg h2] at h
  by_cases h3:Pg.smp l
  · exact ⟨by omega,by omega,ck1_zero (Decidable.not_not.1 h2),h3⟩
  · rw [if_neg h3] at h;omega
theorem Ok.gt {l:List P2} (h:∀x∈l,inR x) {i:Nat} (hi:i<l.length):inR (l.getD i (0,0)):=h _ (Ms.getD_mem (0,0) hi)
def tm (n:Nat) (l:List P2) (i:Nat):Int:=(gt l i).1*(gt l ((i+1)%n)).2 - (gt l ((i+1)%n)).1*(gt l i).2
def dbN (n:Nat) (l:List P2):Nat→Int
  |0=>0
  |i+1=>dbN n l i+tm n l i
def db (l:List P2):Int:=dbN l.length l l.length
theorem tm_b {l:List P2} {n:Nat} (hn:l.length=n) (h:∀x∈l,inR x) {i:Nat} (hi:i<n): -0x20000000000≤tm n l i∧tm n l i≤0x20000000000:=by
  subst hn
  have h1:=Ok.gt h hi
  have h2:=Ok.gt h (Nat.mod_lt (i+1) (by omega:0<l.length))
  obtain ⟨p1,p2⟩:=ab h1 h2
  unfold tm gt;omega
theorem dbN_b {l:List P2} {n:Nat} (hn:l.length=n) (h:∀x∈l,inR x):∀{i:Nat},i≤n→ -(0x20000000000*(i:Int))≤dbN n l i∧dbN n l i≤0x20000000000*(i:Int)
  |0,_=>by unfold dbN;omega
  |i+1,hi=>by
    have h1:=dbN_b hn h (i:=i) (by omega)
    have h2:=tm_b hn h (i:=i) (by omega)
    unfold dbN;omega
def arC (l:List P2):Int:=if 64<l.length then 3 else if l.any far then 2 else 0
def arV (l:List P2):Int:=if 64<l.length then 0 else if l.any far then 0 else db l
theorem any_far {l:List P2} (h:¬l.any far=true):∀x∈l,inR x:=fun x hx=>by
  refine far_no fun hf=>h (List.any_eq_true.2 ⟨x,hx,hf⟩)
theorem ar_lim {l:List P2} (h:64<l.length):arV l=0∧arC l=3:=by unfold arV arC;rw [if_pos h,if_pos h];exact ⟨rfl,rfl⟩
theorem ar_far {l:List P2} (h:¬64<l.length) (h2:l.any far=true):arV l=0∧arC l=2:=by unfold arV arC;rw [if_neg h,if_neg h,if_pos h2,if_pos h2];exact ⟨rfl,rfl⟩
theorem ar_ok {l:List P2} (h:¬64<l.length) (h2:¬l.any far=true):arV l=db l∧arC l=0:=by unfold arV arC;rw [if_neg h,if_neg h,if_neg h2,if_neg h2];exact ⟨rfl,rfl⟩
def hit0 (a b q:P2):Prop:=a.2≤q.2∧q.2<b.2∧0<(crs a b q).sign
instance (a b q:P2):Decidable (hit0 a b q):=inferInstanceAs (Decidable (_∧_))
def hit (a b q:P2):Prop:=if b.2<a.2 then hit0 b a q else hit0 a b q
instance (a b q:P2):Decidable (hit a b q):=inferInstanceAs (Decidable (ite ..))
def hitR (a b q:P2):Prop:=(¬(q.2<a.2↔q.2<b.2))∧(a.2<b.2∧0<crs a b q∨b.2<a.2∧crs a b q<0)
instance (a b q:P2):Decidable (hitR a b q):=inferInstanceAs (Decidable (_∧_))
theorem hit_sw {a b q:P2} (h:b.2<a.2):hit a b q↔hit0 b a q:=by unfold hit;rw [if_pos h]
theorem hit_no {a b q:P2} (h:¬b.2<a.2):hit a b q↔hit0 a b q:=by unfold hit;rw [if_neg h]
theorem crs_sw (a b q:P2):crs b a q= - crs a b q:=by unfold crs;grind
def inN (n:Nat) (l:List P2) (q:P2):Nat→Int
  |0=> -1
  |i+1=>if hit (gt l i) (gt l ((i+1)%n)) q then - inN n l q i else inN n l q i
theorem inN_hit {n:Nat} {l:List P2} {q:P2} {i:Nat} (h:hit (gt l i) (gt l ((i+1)%n)) q):inN n l q (i+1)= - inN n l q i:=by
  show ite .. =_;rw [if_pos h]
theorem inN_not {n:Nat} {l:List P2} {q:P2} {i:Nat} (h:¬hit (gt l i) (gt l ((i+1)%n)) q):inN n l q (i+1)=inN n l q i:=by
  show ite .. =_;rw [if_neg h]
theorem inN_rng (n:Nat) (l:List P2) (q:P2):∀i,inN n l q i=1∨inN n l q i= -1
  |0=> .inr rfl
  |i+1=>by
    have:=inN_rng n l q i
    unfold inN;split <;> omega
def onB (l:List P2) (q:P2):Prop:=∃i,i<l.length∧onS (l.getD i (0,0)) (l.getD ((i+1)%l.length) (0,0)) q
instance (l:List P2) (q:P2):Decidable (onB l q):=inferInstanceAs (Decidable (∃i,i<l.length∧_))
def ins (l:List P2) (q:P2):Int:=if onB l q then 0 else inN l.length l q l.length
theorem ins_on {l:List P2} {n:Nat} (hn:l.length=n) {q:P2} {i:Nat} (hi:i<n) (h:onS (l.getD i (0,0)) (l.getD ((i+1)%n) (0,0)) q):ins l q=0:=by subst hn;unfold ins;rw [if_pos ⟨i,hi,h⟩]
theorem ins_go {l:List P2} {n:Nat} (hn:l.length=n) {q:P2} (h:∀i,i<n→¬onS (l.getD i (0,0)) (l.getD ((i+1)%n) (0,0)) q):ins l q=inN n l q n:=by
  subst hn;unfold ins;rw [if_neg (fun ⟨i,h1,h2⟩=>h i h1 h2)]
def isC (l:List P2) (q:P2):Int:=if ck l≠0 then ck l else if far q then 2 else 0
def isV (l:List P2) (q:P2):Int:=if ck l≠0 then 0 else if far q then 0 else ins l q
theorem is_bad {l:List P2} {q:P2} (h:ck l≠0):isV l q=0∧isC l q=ck l:=by unfold isV isC;rw [if_pos h,if_pos h];exact ⟨rfl,rfl⟩
theorem is_far {l:List P2} {q:P2} (h:ck l=0) (h2:far q=true):isV l q=0∧isC l q=2:=by unfold isV isC;rw [if_neg (fun k=>k h),if_pos h2,if_neg (fun k=>k h),if_pos h2];exact ⟨rfl,rfl⟩
theorem is_ok {l:List P2} {q:P2} (h:ck l=0) (h2:¬far q=true):isV l q=ins l q∧isC l q=0:=by unfold isV isC;rw [if_neg (fun k=>k h),if_neg h2,if_neg (fun k=>k h),if_neg h2];exact ⟨rfl,rfl⟩
end Go.Proofs.YtjcpbhlijoigfaaGreat.Pg
namespace Go.Proofs.YtjcpbhlijoigfaaGreat.Pg
set_option linter.unusedVariables false
abbrev T3:=Int×Int×Int
def sg (l:List P2):Int:=if db l<0 then -1 else 1
theorem sg_neg {l:List P2} (h:db l<0):sg l= -1:=by unfold sg;rw [if_pos h]
theorem sg_pos {l:List P2} (h:¬db l<0):sg l=1:=by unfold sg;rw [if_neg h]
theorem sg_rng (l:List P2):sg l=1∨sg l= -1:=by unfold sg;split;exact .inr rfl;exact .inl rfl
def sx (m i:Nat):Nat:=if i+1<m then i+1 else 0
def px (m i:Nat):Nat:=if i=0 then m - 1 else i - 1
abbrev nt (L:List Nat) (i:Nat):Nat:=L.getD i 0
structure Rg (n:Nat) (L B N:List Nat):Prop where
  lb:B.length=64
  ln:N.length=64
  n64:n≤64
  lt:∀i,i<L.length→nt L i<n
  srt:∀i j,i<j→j<L.length→nt L i<nt L j
  nx:∀i,i<L.length→N.getD (nt L i) 0=nt L (sx L.length i)
  bf:∀i,i<L.length→B.getD (nt L i) 0=nt L (px L.length i)
theorem sx_c (m i:Nat):i+1<m∧sx m i=i+1∨m≤i+1∧sx m i=0:=by unfold sx;split <;> omega
theorem px_c (m i:Nat):i=0∧px m i=m - 1∨0<i∧px m i=i - 1:=by unfold px;split <;> omega
def er (i x:Nat):Nat:=if x<i then x else x+1
theorem er_c (i x:Nat):x<i∧er i x=x∨i≤x∧er i x=x+1:=by unfold er;split <;> omega
theorem er_sx {m i j:Nat} (hi:i<m) (h2:2≤m) (hj:j<m - 1):(er i j=px m i→sx m i=er i (sx (m - 1) j))∧(er i j≠px m i→sx m (er i j)=er i (sx (m - 1) j)):=by
  have h1:=sx_c m i
  have h3:=px_c m i
  have h4:=er_c i j
  have h5:=sx_c (m - 1) j
  have h6:=er_c i (sx (m - 1) j)
  have h7:=sx_c m (er i j)
  constructor <;> intro h <;> omega
theorem er_px {m i j:Nat} (hi:i<m) (h2:2≤m) (hj:j<m - 1):(er i j=sx m i→px m i=er i (px (m - 1) j))∧(er i j≠sx m i→px m (er i j)=er i (px (m - 1) j)):=by
  have h1:=px_c m i
  have h3:=sx_c m i
  have h4:=er_c i j
  have h5:=px_c (m - 1) j
  have h6:=er_c i (px (m - 1) j)
  have h7:=px_c m (er i j)
  constructor <;> intro h <;> omega
theorem sx_lt {m i:Nat} (h:i<m):sx m i<m:=by unfold sx;split <;> omega
theorem px_lt {m i:Nat} (h:i<m):px m i<m:=by unfold px;split <;> omega
theorem Rg.inj {n:Nat} {L B N:List Nat} (h:Rg n L B N) {i j:Nat} (hi:i<L.length) (hj:j<L.length) (e:nt L i=nt L j):i=j:=by
  rcases Nat.lt_trichotomy i j with k|k|k
  · have:=h.srt i j k hj;omega
  · exact k
  · have:=h.srt j i k hi;omega
theorem Rg.at {n:Nat} {L B N:List Nat} (h:Rg n L B N) {i v:Nat} (hi:i<L.length) (e:nt L i=v):v<n∧N.getD v 0=nt L (sx L.length i)∧B.getD v 0=nt L (px L.length i)∧N.getD v 0<n∧B.getD v 0<n:=by
  subst e
  have h1:=h.nx i hi
  have h2:=h.bf i hi
  have h3:=h.lt _ (sx_lt hi)
  have h4:=h.lt _ (px_lt hi)
  exact ⟨h.lt i hi,h1,h2,by omega,by omega⟩
theorem getD_set {l:List Nat} {i j x:Nat} (h:j<l.length):(l.set j x).getD i 0=if i=j then x else l.getD i 0:=by
  rw [List.getD_eq_getElem?_getD,List.getElem?_set,List.getD_eq_getElem?_getD]
  by_cases e:j=i
  · subst e;rw [if_pos rfl,if_pos rfl,if_pos h];rfl
  · rw [if_neg e,if_neg (fun k=>e k.symm)]
theorem getD_erase {L:List Nat} {i j:Nat}:nt (L.eraseIdx i) j=nt L (er i j):=by
  unfold nt er
  rw [List.getD_eq_getElem?_getD,List.getElem?_eraseIdx]
  split
  · rw [List.getD_eq_getElem?_getD]
  · rw [List.getD_eq_getElem?_getD]
def cutN (B N:List Nat) (v:Nat):List Nat:=N.set (B.getD v 0) (N.getD v 0)
def cutB (B N:List Nat) (v:Nat):List Nat:=B.set ((cutN B N v).getD v 0) (B.getD v 0)
theorem cutN_v {n:Nat} {L B N:List Nat} (h:Rg n L B N) {i v:Nat} (hi:i<L.length) (e:nt L i=v) (h2:2≤L.length):(cutN B N v).getD v 0=N.getD v 0:=by
  obtain ⟨hv,hn,hb,hn2,hb2⟩:=h.at hi e
  have n64:=h.n64
  have ln:=h.ln
  unfold cutN
  rw [getD_set (by omega),if_neg]
  intro k
  rw [hb] at k
  have:=h.inj hi (px_lt hi) (by rw [e];exact k)
  have:=px_c L.length i
  omega
theorem Rg.cut {n:Nat} {L B N:List Nat} (h:Rg n L B N) {i v:Nat} (hi:i<L.length) (e:nt L i=v) (h2:2≤L.length):Rg n (L.eraseIdx i) (cutB B N v) (cutN B N v):=by
  obtain ⟨hv,hn,hb,hn2,hb2⟩:=h.at hi e
  have n64:=h.n64
  have lb:=h.lb
  have ln:=h.ln
  have hlen:(L.eraseIdx i).length=L.length - 1:=by rw [List.length_eraseIdx,if_pos hi]
  have hne:¬v=B.getD v 0:=by
    intro k
    rw [hb] at k
    have:=h.inj hi (px_lt hi) (by rw [e];exact k)
    unfold px at this;split at this <;> omega
  have hN:∀w,(cutN B N v).getD w 0=if w=B.getD v 0 then N.getD v 0 else N.getD w 0:=fun w=>by
    unfold cutN;rw [getD_set (by omega)]
  have hNv:(cutN B N v).getD v 0=N.getD v 0:=by rw [hN,if_neg hne]
  have hB:∀w,(cutB B N v).getD w 0=if w=N.getD v 0 then B.getD v 0 else B.getD w 0:=fun w=>by
    unfold cutB;rw [hNv,getD_set (by omega)]
  refine ⟨by unfold cutB;rw [List.length_set];exact lb,by unfold cutN;rw [List.length_set];exact ln,n64,fun j hj=> ?_,fun j k hjk hk=> ?_,fun j hj=> ?_,fun j hj=> ?_⟩
  · rw [getD_erase];have:=er_c i j;exact h.lt _ (by omega)
  · rw [getD_erase, getD_erase]
    have:=er_c i j
    have:=er_c i k
    exact h.srt _ _ (by omega) (by omega)
  · rw [hlen] at hj
    have hj3:er i j<L.length:=by have:=er_c i j;omega
    obtain ⟨e1,e2⟩:=er_sx hi h2 hj
    rw [getD_erase,hN,hb,hlen,getD_erase]
    by_cases k:nt L (er i j)=nt L (px L.length i)
    · rw [if_pos k,hn,e1 (h.inj hj3 (px_lt hi) k)]
    · rw [if_neg k,h.nx _ hj3,e2 (fun q=>k (by rw [q]))]
  · rw [hlen] at hj
    have hj3:er i j<L.length:=by have:=er_c i j;omega
    obtain ⟨e1,e2⟩:=er_px hi h2 hj
    rw [getD_erase,hB,hn,hlen,getD_erase]
    by_cases k:nt L (er i j)=nt L (sx L.length i)
    · rw [if_pos k,hb,e1 (h.inj hj3 (sx_lt hi) k)]
    · rw [if_neg k,h.bf _ hj3,e2 (fun q=>k (by rw [q]))]
theorem range_nt {n i:Nat} (h:i<n):nt (List.range n) i=i:=by
  unfold nt;rw [List.getD_eq_getElem?_getD,List.getElem?_range h];rfl
theorem Rg.mk0 {n:Nat} {B N:List Nat} (h64:n≤64) (hB:B.length=64) (hN:N.length=64) (h:∀w,w<n→B.getD w 0=(w+n - 1)%n∧N.getD w 0=(w+1)%n):Rg n (List.range n) B N:=by
  have hl:(List.range n).length=n:=List.length_range
  refine ⟨hB,hN,h64,fun i hi=> ?_,fun i j hij hj=> ?_,fun i hi=> ?_,fun i hi=> ?_⟩
  · rw [hl] at hi;rw [range_nt hi];exact hi
  · rw [hl] at hj;rw [range_nt (by omega),range_nt hj];exact hij
  · rw [hl] at hi
    rw [range_nt hi,hl,range_nt (sx_lt hi),(h i hi).2]
    have:=sx_c n i
    rcases this with ⟨h1,h2⟩|⟨h1,h2⟩
    · rw [h2,Nat.mod_eq_of_lt h1]
    · rw [h2,show i+1=n by omega,Nat.mod_self]
  · rw [hl] at hi
    rw [range_nt hi,hl,range_nt (px_lt hi),(h i hi).1]
    have:=px_c n i
    rcases this with ⟨h1,h2⟩|⟨h1,h2⟩
    · rw [h2,h1,Nat.zero_add,Nat.mod_eq_of_lt (by omega)]
    · rw [h2,show i+n - 1=n+(i - 1) by omega,Nat.add_mod_left,Nat.mod_eq_of_lt (by omega)]
theorem md_c {x m:Nat} (h:x<2*m):x<m∧x%m=x∨m≤x∧x%m=x - m:=by
  by_cases k:x<m
  · exact .inl ⟨k,Nat.mod_eq_of_lt k⟩
  · refine .inr ⟨by omega, ?_⟩
    rw [Nat.mod_eq_sub_mod (by omega),Nat.mod_eq_of_lt (by omega)]
theorem sx_md {m x:Nat} (hm:0<m):sx m (x%m)=(x+1)%m:=by
  have h1:=Nat.mod_lt x hm
  have h2:(x+1)%m=(x%m+1)%m:=by rw [Nat.mod_add_mod]
  rw [h2]
  rcases sx_c m (x%m) with ⟨h3,h4⟩|⟨h3,h4⟩
  · rw [h4,Nat.mod_eq_of_lt h3]
  · rw [h4,show x%m+1=m by omega,Nat.mod_self]
theorem Rg.nxm {n:Nat} {L B N:List Nat} (h:Rg n L B N) (x:Nat) (hm:0<L.length):N.getD (nt L (x%L.length)) 0=nt L ((x+1)%L.length):=by
  rw [h.nx _ (Nat.mod_lt _ hm),sx_md hm]
theorem Rg.nx2 {n:Nat} {L B N:List Nat} (h:Rg n L B N) {i v:Nat} (hi:i<L.length) (e:nt L i=v):N.getD (N.getD v 0) 0=nt L ((i+2+0)%L.length):=by
  have h1:=h.nxm i (by omega)
  have h2:=h.nxm (i+1) (by omega)
  rw [Nat.mod_eq_of_lt hi,e] at h1
  rw [h1,h2]
theorem stop_iff {n:Nat} {L B N:List Nat} (h:Rg n L B N) {i t:Nat} (hi:i<L.length) (h3:3≤L.length) (ht:t≤L.length - 3):nt L ((i+2+t)%L.length)=nt L (px L.length i)↔t=L.length - 3:=by
  have h1:=md_c (x:=i+2+t) (m:=L.length) (by omega)
  have h2:=px_c L.length i
  constructor
  · intro e
    have:=h.inj (Nat.mod_lt _ (by omega)) (px_lt hi) e
    omega
  · intro e
    rw [show (i+2+t)%L.length=px L.length i by omega]
def corn (l:List P2) (s:Int) (L:List Nat) (i:Nat):Int:=s*(crs (gt l (nt L (px L.length i))) (gt l (nt L i)) (gt l (nt L (sx L.length i)))).sign
def in3 (s:Int) (a b c q:P2):Prop:=0≤s*(crs a b q).sign∧0≤s*(crs b c q).sign∧0≤s*(crs c a q).sign
instance (s:Int) (a b c q:P2):Decidable (in3 s a b c q):=inferInstanceAs (Decidable (_∧_))
def in3I (l:List P2) (s:Int) (L:List Nat) (i t:Nat):Prop:=in3 s (gt l (nt L (px L.length i))) (gt l (nt L i)) (gt l (nt L (sx L.length i))) (gt l (nt L ((i+2+t)%L.length)))
instance (l:List P2) (s:Int) (L:List Nat) (i t:Nat):Decidable (in3I l s L i t):=inferInstanceAs (Decidable (in3 ..))
def earI (l:List P2) (s:Int) (L:List Nat) (i:Nat):Prop:=0<corn l s L i∧∀t,t<L.length - 3→¬in3I l s L i t
instance (l:List P2) (s:Int) (L:List Nat) (i:Nat):Decidable (earI l s L i):=inferInstanceAs (Decidable (_∧_))
theorem s_mul {s z:Int} (hs:s=1∨s= -1): -1≤s*z.sign∧s*z.sign≤1:=by
  have:=sgn_rng z
  rcases hs with rfl|rfl <;> omega
def fst (m:Nat) (P:Nat→Prop) [DecidablePred P]:Option Nat:=(List.range m).find? (fun i=>decide (P i))
theorem fst_some {m k:Nat} {P:Nat→Prop} [DecidablePred P] (hk:k<m) (hp:P k) (hn:∀j,j<k→¬P j):fst m P=some k:=by
  unfold fst
  rw [List.find?_eq_some_iff_append]
  refine ⟨by simpa using hp,List.range k,(List.range' (k+1) (m - k - 1)),?_,fun a ha=> ?_⟩
  · refine List.ext_getElem (by simp; omega) fun i h1 h2 => ?_
    rw [List.getElem_range,List.getElem_append]
    split
    · rw [List.getElem_range]
    · rw [List.getElem_cons]
      have hlk:(List.range k).length=k:=List.length_range
      have h1':i<m:=by simpa using h1
      split
      · omega
      · rw [List.getElem_range'];omega
  · have:=hn a (by simpa using ha);simpa using this
theorem fst_none {m:Nat} {P:Nat→Prop} [DecidablePred P] (hn:∀j,j<m→¬P j):fst m P=none:=by
  unfold fst
  rw [List.find?_eq_none]
  intro a ha
  have:=hn a (by simpa using ha);simpa using this
def Fst (L:List Nat) (P:Nat→Prop) (r:Int):Prop:=(∃k,k<L.length∧r=((nt L k:Nat):Int)∧P k∧∀j,j<k→¬P j)∨(r= -1∧∀j,j<L.length→¬P j)
structure Fs (n:Nat) (L:List Nat) (P:Nat→Prop) (v k:Nat):Prop where
  vn:v≤n
  km:k≤L.length
  lo:∀j,j<k→nt L j<v
  hi:∀j,k≤j→j<L.length→v≤nt L j
  no:∀j,j<k→¬P j
def Gn (n:Nat) (L:List Nat) (G:List Bool):Prop:=G.length=n∧∀v,v<n→(G.getD v false=true↔∀i,i<L.length→nt L i≠v)
theorem Fs.zero {n:Nat} {L:List Nat} {P:Nat→Prop}:Fs n L P 0 0:=⟨Nat.zero_le _,Nat.zero_le _,fun j h=>absurd h (by omega),fun j _ _=>Nat.zero_le _,fun j h=>absurd h (by omega)⟩
theorem Fs.skip {n:Nat} {L:List Nat} {P:Nat→Prop} {v k:Nat} {G:List Bool} (h:Fs n L P v k) (hg:Gn n L G) (hv:v<n) (hb:G.getD v false=true):Fs n L P (v+1) k:=by
  have h1:=(hg.2 v hv).1 hb
  refine ⟨hv,h.km,fun j hj=>Nat.lt_succ_of_lt (h.lo j hj),fun j hj hl=> ?_,h.no⟩
  have:=h.hi j hj hl
  have:=h1 j hl
  omega
theorem Fs.here {n:Nat} {L B N:List Nat} {P:Nat→Prop} {v k:Nat} {G:List Bool} (h:Fs n L P v k) (hr:Rg n L B N) (hg:Gn n L G) (hv:v<n) (hb:¬G.getD v false=true):k<L.length∧nt L k=v:=by
  have h1:∃i,i<L.length∧nt L i=v:=by
    refine Decidable.byContradiction fun hc=>hb ((hg.2 v hv).2 fun i hi he=>hc ⟨i,hi,he⟩)
  obtain ⟨i,hi,he⟩:=h1
  have h2:k≤i:=Decidable.byContradiction fun hc=>by have:=h.lo i (by omega);omega
  have h3:=h.hi k (Nat.le_refl _) (by omega)
  by_cases e:k=i
  · subst e;exact ⟨hi,he⟩
  · have:=hr.srt k i (by omega) hi;omega
theorem Fs.next {n:Nat} {L B N:List Nat} {P:Nat→Prop} {v k:Nat} (h:Fs n L P v k) (hr:Rg n L B N) (hv:v<n) (hk:k<L.length∧nt L k=v) (hp:¬P k):Fs n L P (v+1) (k+1):=by
  refine ⟨hv,hk.1,fun j hj=> ?_,fun j hj hl=> ?_,fun j hj=> ?_⟩
  · by_cases e : j = k
    · subst e;omega
    · have:=h.lo j (by omega);omega
  · have:=hr.srt k j (by omega) hl;omega
  · by_cases e : j = k
    · subst e;exact hp
    · exact h.no j (by omega)
theorem Fs.fin {n:Nat} {L B N:List Nat} {P:Nat→Prop} {k:Nat} (h:Fs n L P n k) (hr:Rg n L B N):∀j,j<L.length→¬P j:=fun j hj=>by
  by_cases e:j<k
  · exact h.no j e
  · have := h.hi j (by omega) hj
    have:=hr.lt j hj
    omega
theorem Gn.zero {n:Nat}:Gn n (List.range n) (List.replicate n false):=by
  refine ⟨List.length_replicate,fun v hv=> ?_⟩
  rw [List.getD_eq_getElem?_getD,List.getElem?_replicate,if_pos hv]
  simp only [Option.getD_some,List.length_range]
  exact ⟨fun h=>(by cases h),fun h=>absurd (range_nt hv) (h v hv)⟩
theorem Gn.set {n:Nat} {L B N:List Nat} {G:List Bool} {k v:Nat} (h:Gn n L G) (hr:Rg n L B N) (hk:k<L.length) (e:nt L k=v):Gn n (L.eraseIdx k) (G.set v true):=by
  have hv:v<n:=e ▸ hr.lt k hk
  have hlen:(L.eraseIdx k).length=L.length - 1:=by rw [List.length_eraseIdx,if_pos hk]
  refine ⟨by rw [List.length_set];exact h.1,fun w hw=> ?_⟩
  rw [List.getD_eq_getElem?_getD,List.getElem?_set,hlen]
  have h1:=h.1
  by_cases ew:v=w
  · subst ew
    rw [if_pos rfl,if_pos (by omega)]
    refine ⟨fun _ i hi hc=> ?_,fun _=>rfl⟩
    rw [getD_erase] at hc
    have h3:=er_c k i
    have:=hr.inj (i:=er k i) (j:=k) (by omega) hk (by rw [hc,e])
    omega
  · rw [if_neg ew, ← List.getD_eq_getElem?_getD, h.2 w hw]
    constructor
    · intro hc i hi
      rw [getD_erase]
      have h3:=er_c k i
      exact hc _ (by omega)
    · intro hc i hi he
      by_cases ek:i=k
      · subst ek;exact ew (e.symm.trans he)
      · by_cases el : i < k
        · have h4 := hc i (by omega)
          rw [getD_erase] at h4
          have h3:=er_c k i
          rw [show er k i=i by omega] at h4;exact h4 he
        · have h4 := hc (i - 1) (by omega)
          rw [getD_erase] at h4
          have h3:=er_c k (i - 1)
          rw [show er k (i - 1)=i by omega] at h4;exact h4 he
def tri (L:List Nat) (i:Nat):T3:=(((nt L (px L.length i):Nat):Int),((nt L i:Nat):Int),((nt L (sx L.length i):Nat):Int))
def ears (l:List P2) (s:Int):Nat→List Nat→List T3→Option (List T3)
  |0,L,out=>some (out++[(((nt L 0:Nat):Int),((nt L 1:Nat):Int),((nt L 2:Nat):Int))])
  |f+1,L,out=>match fst L.length (earI l s L) with
    |none=>none
    |some i=>ears l s f (L.eraseIdx i) (out++[tri L i])
theorem ears_some {l:List P2} {s:Int} {L:List Nat} {out:List T3} {k:Nat} (h3:3<L.length) (hk:k<L.length) (hp:earI l s L k) (hn:∀j,j<k→¬earI l s L j):ears l s (L.length - 3) L out=ears l s ((L.eraseIdx k).length - 3) (L.eraseIdx k) (out++[tri L k]):=by
  have hlen:(L.eraseIdx k).length=L.length - 1:=by rw [List.length_eraseIdx,if_pos hk]
  rw [show L.length - 3=(L.length - 4)+1 by omega,hlen,show L.length - 1 - 3=L.length - 4 by omega]
  conv=>lhs;unfold ears
  rw [fst_some hk hp hn]
theorem ears_none {l:List P2} {s:Int} {L:List Nat} {out:List T3} (h3:3<L.length) (hn:∀j,j<L.length→¬earI l s L j):ears l s (L.length - 3) L out=none:=by
  rw [show L.length - 3=(L.length - 4)+1 by omega]
  unfold ears
  rw [fst_none hn]
theorem ears_end {l:List P2} {s:Int} {L:List Nat} {out:List T3} (h3:L.length=3):ears l s (L.length - 3) L out=some (out++[(((nt L 0:Nat):Int),((nt L 1:Nat):Int),((nt L 2:Nat):Int))]):=by
  rw [h3];rfl
def earO (l:List P2):Option (List T3):=ears l (sg l) (l.length - 3) (List.range l.length) []
def erC (l:List P2):Int:=if ck l≠0 then ck l else if (earO l).isSome then 0 else 11
def erV (l:List P2):List T3:=if ck l≠0 then [] else (earO l).getD []
theorem er_bad {l:List P2} (h:ck l≠0):erV l=[]∧erC l=ck l:=by unfold erV erC;rw [if_pos h,if_pos h];exact ⟨rfl,rfl⟩
theorem er_none {l:List P2} (h:ck l=0) (h2:earO l=none):erV l=[]∧erC l=11:=by unfold erV erC;rw [if_neg (fun k=>k h),if_neg (fun k=>k h),h2];exact ⟨rfl,rfl⟩
theorem er_some {l:List P2} {o:List T3} (h:ck l=0) (h2:earO l=some o):erV l=o∧erC l=0:=by unfold erV erC;rw [if_neg (fun k=>k h),if_neg (fun k=>k h),h2];exact ⟨rfl,rfl⟩
end Go.Proofs.YtjcpbhlijoigfaaGreat.Pg
namespace Go.Proofs.YtjcpbhlijoigfaaGreat.Pg
set_option linter.unusedVariables false
theorem betw_sw {a b p:P2}:betw a b p↔betw b a p:=by unfold betw;omega
theorem onS_sw {a b p:P2}:onS a b p↔onS b a p:=by
  unfold onS;rw [crs_sw a b,betw_sw]
  constructor <;> intro h <;> exact ⟨by omega,h.2⟩
theorem mt_comm {a b c d:P2}:mt a b c d↔mt c d a b:=by
  unfold mt mt0 mt1
  constructor
  · rintro (⟨h1, h2⟩ | h | h | h | h)
    · exact .inl ⟨h2,h1⟩
    · exact .inr (.inr (.inr (.inl h)))
    · exact .inr (.inr (.inr (.inr h)))
    · exact .inr (.inl h)
    · exact .inr (.inr (.inl h))
  · rintro (⟨h1, h2⟩ | h | h | h | h)
    · exact .inl ⟨h2,h1⟩
    · exact .inr (.inr (.inr (.inl h)))
    · exact .inr (.inr (.inr (.inr h)))
    · exact .inr (.inl h)
    · exact .inr (.inr (.inl h))
theorem mt_sw1 {a b c d:P2} (h:mt a b c d):mt b a c d:=by
  unfold mt mt0 mt1 at*
  rcases h with ⟨h1,h2⟩|h|h|h|h
  · refine .inl ⟨?_, by rw [Int.mul_comm]; exact h2⟩
    rw [crs_sw a b c,crs_sw a b d,Int.sign_neg,Int.sign_neg,Int.neg_mul_neg];exact h1
  · exact .inr (.inl (onS_sw.1 h))
  · exact .inr (.inr (.inl (onS_sw.1 h)))
  · exact .inr (.inr (.inr (.inr h)))
  · exact .inr (.inr (.inr (.inl h)))
theorem mt_sw {a b c d:P2} (h:mt a b c d):mt b a d c:=mt_sw1 (mt_comm.1 (mt_sw1 (mt_comm.1 h)))
structure Sm (n:Nat) (l:List P2):Prop where
  len:l.length=n
  n3:3≤n
  n64:n≤64
  nd:l.Nodup
  a:∀i,i<n→¬smA n l i
  b:∀i j,i<n→j<n→i≠j→(i+1)%n≠j→(j+1)%n≠i→¬mt (gt l i) (gt l ((i+1)%n)) (gt l j) (gt l ((j+1)%n))
theorem ck1_iff {l:List P2}:∀{s:List P2},ck1 s l=0↔(∀x∈l,inR x)∧l.Nodup∧∀x∈l,x ∉ s:=by
  induction l with
  |nil=>intro s;exact ⟨fun _=>⟨fun x h=>(by cases h),List.nodup_nil,fun x h=>(by cases h)⟩,fun _=>rfl⟩
  |cons a l ih=>
    intro s
    unfold ck1
    by_cases hf:far a=true
    · rw [if_pos hf]
      refine ⟨fun h=>absurd h (by decide),fun h=> ?_⟩
      have:=h.1 a (List.mem_cons_self ..)
      unfold far at hf;simp at hf;exact absurd this hf
    rw [if_neg hf]
    by_cases hd:a∈s
    · rw [if_pos hd]
      exact ⟨fun h=>absurd h (by decide),fun h=>absurd hd (h.2.2 a (List.mem_cons_self ..))⟩
    rw [if_neg hd,ih]
    constructor
    · rintro ⟨h1, h2, h3⟩
      refine ⟨fun x hx=> ?_,List.nodup_cons.2 ⟨fun hm=>h3 a hm (by simp),h2⟩,fun x hx=> ?_⟩
      · rcases List.mem_cons.1 hx with rfl | hx
        · exact far_no hf
        · exact h1 x hx
      · rcases List.mem_cons.1 hx with rfl | hx
        · exact hd
        · exact fun hs=>h3 x hx (by simp [hs])
    · rintro ⟨h1, h2, h3⟩
      obtain ⟨h4,h5⟩:=List.nodup_cons.1 h2
      refine ⟨fun x hx=>h1 x (List.mem_cons_of_mem _ hx),h5,fun x hx hm=> ?_⟩
      rcases List.mem_append.1 hm with hm|hm
      · exact h3 x (List.mem_cons_of_mem _ hx) hm
      · rw [List.mem_singleton] at hm;subst hm;exact h4 hx
theorem Sm.of {l:List P2} (h:ck l=0):Sm l.length l:=by
  have ho:=ok h
  have h1:ck1 [] l=0:=by
    unfold ck at h
    have h3:=ho.n3
    have h64:=ho.n64
    rw [if_neg (by omega)] at h
    by_cases k:ck1 [] l=0
    · exact k
    · rw [if_pos k] at h;exact absurd h k
  refine ⟨rfl,ho.n3,ho.n64,(ck1_iff.1 h1).2.1,fun i hi=>(ho.smp i hi).1,fun i j hi hj hij h4 h5 hm=> ?_⟩
  have h3:=ho.n3
  by_cases k:i<j
  · refine (ho.smp i hi).2 j hj ⟨?_, h5, hm⟩
    rw [Nat.mod_eq_of_lt (by omega)] at h4;omega
  · refine (ho.smp j hj).2 i hi ⟨?_, h4, mt_comm.1 hm⟩
    rw [Nat.mod_eq_of_lt (by omega)] at h5;omega
theorem Sm.ck {n:Nat} {l:List P2} (h:Sm n l) (hr:∀x∈l,inR x):ck l=0:=by
  have hl:=h.len
  have h3:=h.n3
  have h64:=h.n64
  refine ck_ok (by omega) (ck1_iff.2 ⟨hr,h.nd,fun x _ hx=>by cases hx⟩) ((smp_n hl).2 fun i hi=>⟨h.a i hi,fun j hj hb=> ?_⟩)
  refine h.b i j hi hj (by have:=hb.1;omega) ?_ hb.2.1 hb.2.2
  have:=hb.1
  rw [Nat.mod_eq_of_lt (by omega)];omega
structure Turn (n:Nat) (l l':List P2) (t:Nat→Nat) (e:Nat→Nat) (rv:Bool):Prop where
  len:l.length=n
  len':l'.length=n
  pos:0<n
  e_lt:∀i,i<n→e i<n
  e_inj:∀i j,i<n→j<n→e i=e j→i=j
  e_perm:((List.range n).map e).Perm (List.range n)
  nx:∀i j,i<n→j<n→(e i+1)%n=e j→(if rv then (j+1)%n=i else (i+1)%n=j)
  at1:∀i,i<n→(if rv then gt l' i=gt l ((e i+1)%n)∧gt l' ((i+1)%n)=gt l (e i) else gt l' i=gt l (e i)∧gt l' ((i+1)%n)=gt l ((e i+1)%n))
theorem Turn.onE {n:Nat} {l l':List P2} {t e:Nat→Nat} {rv:Bool} (h:Turn n l l' t e rv) {q:P2} {i:Nat} (hi:i<n):onS (gt l' i) (gt l' ((i+1)%n)) q↔onS (gt l (e i)) (gt l ((e i+1)%n)) q:=by
  have h2:=h.at1 i hi
  cases rv
  · simp only [Bool.false_eq_true,if_false] at h2;rw [h2.1,h2.2]
  · simp only [if_true] at h2;rw [h2.1,h2.2];exact onS_sw
theorem Turn.onB {n:Nat} {l l':List P2} {t e:Nat→Nat} {rv:Bool} (h:Turn n l l' t e rv) (q:P2):onB l' q↔onB l q:=by
  have hl:=h.len
  have hl':=h.len'
  unfold Pg.onB
  rw [hl,hl']
  constructor
  · rintro ⟨i, hi, ho⟩
    exact ⟨e i,h.e_lt i hi,(h.onE hi).1 ho⟩
  · rintro ⟨j, hj, ho⟩
    have hm:j∈(List.range n).map e:=h.e_perm.mem_iff.2 (by simpa using hj)
    obtain ⟨i,hi,rfl⟩:=List.mem_map.1 hm
    have hi':i<n:=by simpa using hi
    exact ⟨i,hi',(h.onE hi').2 ho⟩
theorem Turn.mt {n:Nat} {l l':List P2} {t e:Nat→Nat} {rv:Bool} (h:Turn n l l' t e rv) {i j:Nat} (hi:i<n) (hj:j<n) (hm:mt (gt l' i) (gt l' ((i+1)%n)) (gt l' j) (gt l' ((j+1)%n))):Pg.mt (gt l (e i)) (gt l ((e i+1)%n)) (gt l (e j)) (gt l ((e j+1)%n)):=by
  have h2:=h.at1 i hi
  have h3:=h.at1 j hj
  cases rv
  · simp only [Bool.false_eq_true,if_false] at h2 h3;rw [h2.1,h2.2,h3.1,h3.2] at hm;exact hm
  · simp only [if_true] at h2 h3;rw [h2.1,h2.2,h3.1,h3.2] at hm;exact mt_sw hm
theorem Turn.b {n:Nat} {l l':List P2} {t e:Nat→Nat} {rv:Bool} (h:Turn n l l' t e rv) (hs:Sm n l) {i j:Nat} (hi:i<n) (hj:j<n) (hij:i≠j) (h1:(i+1)%n≠j) (h2:(j+1)%n≠i):¬Pg.mt (gt l' i) (gt l' ((i+1)%n)) (gt l' j) (gt l' ((j+1)%n)):=by
  intro hm
  refine hs.b (e i) (e j) (h.e_lt i hi) (h.e_lt j hj) (fun k=>hij (h.e_inj i j hi hj k)) (fun k=> ?_) (fun k=> ?_) (h.mt hi hj hm)
  · have := h.nx i j hi hj k
    cases rv
    · simp only [Bool.false_eq_true,if_false] at this;exact h1 this
    · simp only [if_true] at this;exact h2 this
  · have := h.nx j i hj hi k
    cases rv
    · simp only [Bool.false_eq_true,if_false] at this;exact h2 this
    · simp only [if_true] at this;exact h1 this
def rot (l:List P2) (k:Nat):List P2:=l.drop k++l.take k
theorem gt_rev {l:List P2} {n i:Nat} (hn:l.length=n) (hi:i<n):gt l.reverse i=gt l (n - 1 - i):=by
  unfold gt
  rw [List.getD_eq_getElem?_getD,List.getElem?_reverse (by omega),List.getD_eq_getElem?_getD,hn]
def sh (d e:Int) (p:P2):P2:=(p.1+d,p.2+e)
theorem crs_sh (d e:Int) (a b c:P2):crs (sh d e a) (sh d e b) (sh d e c)=crs a b c:=by
  unfold crs sh
  dsimp only
  rw [show b.1+d - (a.1+d)=b.1 - a.1 by omega,show c.2+e - (a.2+e)=c.2 - a.2 by omega,show b.2+e - (a.2+e)=b.2 - a.2 by omega,show c.1+d - (a.1+d)=c.1 - a.1 by omega]
structure Rv (n:Nat) (l X:List P2) (i:Nat):Prop where
  len:X.length=n
  le:2*i≤n+1
  at1:∀m,m<n→gt X m=if m<i∨n≤m+i then gt l (n - 1 - m) else gt l m
theorem Rv.zero {n:Nat} {l:List P2} (hn:l.length=n):Rv n l l 0:=⟨hn,by omega,fun m hm=>by rw [if_neg (by omega)]⟩
theorem gt_set {X:List P2} {i m:Nat} {x:P2} (h:i<X.length):gt (X.set i x) m=if m=i then x else gt X m:=by
  unfold gt
  rw [List.getD_eq_getElem?_getD,List.getElem?_set,List.getD_eq_getElem?_getD]
  by_cases e:i=m
  · subst e;rw [if_pos rfl,if_pos rfl,if_pos h];rfl
  · rw [if_neg e,if_neg (fun k=>e k.symm)]
theorem Rv.step {n i:Nat} {l X:List P2} (h:Rv n l X i) (hi:i<n - 1 - i):Rv n l ((X.set i (gt X (n - 1 - i))).set (n - 1 - i) (gt X i)) (i+1):=by
  have hl:=h.len
  refine ⟨by rw [List.length_set,List.length_set];exact hl,by omega,fun m hm=> ?_⟩
  rw [gt_set (by rw [List.length_set];omega),gt_set (by omega),h.at1 i (by omega),h.at1 (n - 1 - i) (by omega),h.at1 m hm]
  by_cases e1:m=n - 1 - i
  · rw [if_pos e1,if_neg (by omega),if_pos (by omega),show n - 1 - m=i by omega]
  rw [if_neg e1]
  by_cases e2:m=i
  · rw [if_pos e2,if_neg (by omega),if_pos (by omega),e2]
  rw [if_neg e2]
  by_cases e3:m<i∨n≤m+i
  · rw [if_pos e3,if_pos (by omega)]
  · rw [if_neg e3,if_neg (by omega)]
theorem Rv.fin {n i:Nat} {l X:List P2} (h:Rv n l X i) (hn:l.length=n) (hi:n≤2*i+1):X=l.reverse:=by
  have hl:=h.len
  refine Ms.ext_getD (0,0) (by rw [List.length_reverse];omega) fun m hm=> ?_
  have h1:=h.at1 m (by omega)
  have h2:=gt_rev hn (i:=m) (by omega)
  show gt X m=gt l.reverse m
  rw [h1,h2]
  split
  · rfl
  · rw [show n - 1 - m=m by omega]
end Go.Proofs.YtjcpbhlijoigfaaGreat.Pg
namespace Go.Proofs.YtjcpbhlijoigfaaGreat.Pg
set_option linter.unusedVariables false
abbrev E2:=Int×Int
section
variable {α : Type} [DecidableEq α]
theorem nd_len {I:List α}:∀{O:List α},I.Nodup→(∀x∈I,x∈O)→I.length≤O.length:=by
  induction I with
  |nil=>intro O _ _;exact Nat.zero_le _
  |cons a I ih=>
    intro O hn hs
    obtain ⟨h1,h2⟩:=List.nodup_cons.1 hn
    have ha:=hs a (List.mem_cons_self ..)
    have h3:=ih (O:=O.erase a) h2 fun x hx=>(List.mem_erase_of_ne (fun e=>h1 (by subst e;exact hx))).2 (hs x (List.mem_cons_of_mem _ hx))
    rw [List.length_erase_of_mem ha] at h3
    have:=List.length_pos_of_mem ha
    rw [List.length_cons];omega
theorem nd_lt {I O:List α} (hn:I.Nodup) (hs:∀x∈I,x∈O) {a:α} (ha:a∈O) (hi:a ∉ I):I.length<O.length:=by
  have:=nd_len (I:=a :: I) (O:=O) (List.nodup_cons.2 ⟨hi,hn⟩) (fun x hx=>by rcases List.mem_cons.1 hx with rfl|hx;exact ha;exact hs x hx)
  rwa [List.length_cons] at this
end
def edg (x:T3):List E2:=[(x.1,x.2.1),(x.2.1,x.2.2),(x.2.2,x.1)]
def eds (T:List T3):List E2:=T.flatMap edg
def nxi (n:Nat) (a:Int):Int:=(a+1)%(n:Int)
structure Tg (n:Nat) (T:List T3):Prop where
  n3:3≤n
  len:T.length=n - 2
  rng:∀x∈T,(0≤x.1∧x.1<n)∧(0≤x.2.1∧x.2.1<n)∧(0≤x.2.2∧x.2.2<n)
  nd:(eds T).Nodup
  rev:∀e∈eds T,e.2≠nxi n e.1→(e.2,e.1)∈eds T
  bnd:∀a:Int,0≤a→a<n→(a,nxi n a)∈eds T
theorem eds_cons (x:T3) (T:List T3):eds (x :: T)=edg x++eds T:=rfl
theorem nxi_c {n:Nat} {a:Int} (h0:0≤a) (h:a<n):a+1<n∧nxi n a=a+1∨a+1=n∧nxi n a=0:=by
  unfold nxi
  by_cases k:a+1<n
  · exact .inl ⟨k,Int.emod_eq_of_lt (by omega) k⟩
  · refine .inr ⟨by omega, ?_⟩
    rw [show a+1=(n:Int) by omega,Int.emod_self]
theorem Tg.er {n:Nat} {T:List T3} (h:Tg n T) {e:E2} (he:e∈eds T):(0≤e.1∧e.1<n)∧(0≤e.2∧e.2<n):=by
  obtain ⟨x,hx,hm⟩:=List.mem_flatMap.1 he
  obtain ⟨h1,h2,h3⟩:=h.rng x hx
  unfold edg at hm
  rcases List.mem_cons.1 hm with rfl|hm
  · exact ⟨h1,h2⟩
  rcases List.mem_cons.1 hm with rfl|hm
  · exact ⟨h2,h3⟩
  rw [List.mem_singleton] at hm;subst hm
  exact ⟨h3,h1⟩
def outL (T:List T3) (χ:Int→Bool) (v:Int):List Int:=((eds T).filter (fun e=>decide (e.1=v)&&χ e.2)).map (·.2)
def inL (T:List T3) (χ:Int→Bool) (v:Int):List Int:=((eds T).filter (fun e=>decide (e.2=v)&&χ e.1)).map (·.1)
theorem mem_out {T:List T3} {χ:Int→Bool} {v x:Int}:x∈outL T χ v↔(v,x)∈eds T∧χ x=true:=by
  unfold outL
  rw [List.mem_map]
  constructor
  · rintro ⟨e, he, rfl⟩
    obtain ⟨h1,h2⟩:=List.mem_filter.1 he
    simp only [Bool.and_eq_true,decide_eq_true_eq] at h2
    exact ⟨by rw [← h2.1];exact h1,h2.2⟩
  · rintro ⟨h1, h2⟩
    exact ⟨(v,x),List.mem_filter.2 ⟨h1,by simp [h2]⟩,rfl⟩
theorem mem_in {T:List T3} {χ:Int→Bool} {v x:Int}:x∈inL T χ v↔(x,v)∈eds T∧χ x=true:=by
  unfold inL
  rw [List.mem_map]
  constructor
  · rintro ⟨e, he, rfl⟩
    obtain ⟨h1,h2⟩:=List.mem_filter.1 he
    simp only [Bool.and_eq_true,decide_eq_true_eq] at h2
    exact ⟨by rw [← h2.1];exact h1,h2.2⟩
  · rintro ⟨h1, h2⟩
    exact ⟨(x,v),List.mem_filter.2 ⟨h1,by simp [h2]⟩,rfl⟩
theorem nd_map {β γ:Type} {l:List β} {f:β→γ} (hl:l.Nodup) (hf:∀a∈l,∀b∈l,f a=f b→a=b):(l.map f).Nodup:=by
  induction l with
  |nil=>exact List.nodup_nil
  |cons a l ih=>
    obtain ⟨h1,h2⟩:=List.nodup_cons.1 hl
    rw [List.map_cons]
    refine List.nodup_cons.2 ⟨fun hm=> ?_,ih h2 fun x hx y hy=>hf x (List.mem_cons_of_mem _ hx) y (List.mem_cons_of_mem _ hy)⟩
    obtain ⟨b,hb,e⟩:=List.mem_map.1 hm
    exact h1 ((hf b (List.mem_cons_of_mem _ hb) a (List.mem_cons_self ..) e) ▸ hb)
theorem nd_in {T:List T3} {χ:Int→Bool} {v:Int} (h:(eds T).Nodup):(inL T χ v).Nodup:=by
  unfold inL
  refine nd_map (h.filter _) fun a ha b hb e=> ?_
  have h1:=(List.mem_filter.1 ha).2
  have h2:=(List.mem_filter.1 hb).2
  simp only [Bool.and_eq_true,decide_eq_true_eq] at h1 h2
  exact Prod.ext e (h1.1.trans h2.1.symm)
def bal (χ:Int→Bool) (v:Int) (x:T3):Prop:=((edg x).filter (fun e=>decide (e.1=v)&&χ e.2)).length=((edg x).filter (fun e=>decide (e.2=v)&&χ e.1)).length
theorem bal_len {χ:Int→Bool} {v:Int}:∀{T:List T3},(∀x∈T,bal χ v x)→(outL T χ v).length=(inL T χ v).length:=by
  intro T
  unfold outL inL
  rw [List.length_map,List.length_map]
  induction T with
  |nil=>intro _;rfl
  |cons x T ih=>
    intro h
    rw [eds_cons,List.filter_append,List.filter_append,List.length_append,List.length_append,ih fun y hy=>h y (List.mem_cons_of_mem _ hy),h x (List.mem_cons_self ..)]
theorem bal_true {v:Int} (x:T3):bal (fun _=>true) v x:=by
  unfold bal edg
  simp only [Bool.and_true,List.filter_cons,List.filter_nil]
  by_cases a:x.1=v <;> by_cases b:x.2.1=v <;> by_cases c:x.2.2=v <;> simp [a,b,c]
theorem Tg.fan {n:Nat} {T:List T3} (h:Tg n T) {χ:Int→Bool} {u v:Int} (hu:0≤u∧u<n) (e:nxi n u=v) (hb:∀x∈T,bal χ v x) (hc:χ (nxi n v)=true) (hr:(nxi n v,v) ∉ eds T):χ u=true∧(v,u) ∉ eds T:=by
  have hv:0≤v∧v<n:=by have:=nxi_c hu.1 hu.2;omega
  have hl:=bal_len hb
  have ho:nxi n v∈outL T χ v:=mem_out.2 ⟨h.bnd v hv.1 hv.2,hc⟩
  have hi:nxi n v ∉ inL T χ v:=fun k=>hr (mem_in.1 k).1
  refine Decidable.byContradiction fun hk=> ?_
  have hs:∀x∈inL T χ v,x∈outL T χ v:=fun x hx=>by
    obtain ⟨h1,h2⟩:=mem_in.1 hx
    refine mem_out.2 ⟨?_,h2⟩
    by_cases k:v=nxi n x
    · have hx2 := h.er h1
      have hxu:x=u:=by
        have a1:=nxi_c hu.1 hu.2
        have hx3:(0≤x∧x<n):=hx2.1
        have a2:=nxi_c hx3.1 hx3.2
        omega
      subst hxu
      exact Decidable.byContradiction fun hm=>hk ⟨h2,hm⟩
    · exact h.rev _ h1 k
  have:=nd_lt (nd_in h.nd) hs ho hi
  omega
def pe (n:Nat) (e:E2):Bool:=decide (e.2=nxi n e.1)||decide (e.1=nxi n e.2)
theorem pe_two {n:Nat} (h4:4≤n) {x:T3} (hr:(0≤x.1∧x.1<n)∧(0≤x.2.1∧x.2.1<n)∧(0≤x.2.2∧x.2.2<n)):((edg x).filter (pe n)).length≤2:=by
  obtain ⟨h1,h2,h3⟩:=hr
  have a1:=nxi_c h1.1 h1.2
  have a2:=nxi_c h2.1 h2.2
  have a3:=nxi_c h3.1 h3.2
  have hk:¬(pe n (x.1,x.2.1)=true∧pe n (x.2.1,x.2.2)=true∧pe n (x.2.2,x.1)=true):=by
    unfold pe
    simp only [Bool.or_eq_true,decide_eq_true_eq]
    omega
  unfold edg
  simp only [List.filter_cons,List.filter_nil]
  by_cases b1:pe n (x.1,x.2.1)=true <;> by_cases b2:pe n (x.2.1,x.2.2)=true <;> by_cases b3:pe n (x.2.2,x.1)=true <;> simp [b1,b2,b3]
  exact hk ⟨b1,b2,b3⟩
theorem edg_len (x:T3):(edg x).length=3:=rfl
theorem pe_sum {n m:Nat}:∀{T:List T3},(∀x∈T,((edg x).filter (pe n)).length≤m)→((eds T).filter (pe n)).length≤m*T.length:=by
  intro T
  induction T with
  |nil=>intro _;exact Nat.zero_le _
  |cons x T ih=>
    intro h
    have h1:=h x (List.mem_cons_self ..)
    have h2:=ih fun y hy=>h y (List.mem_cons_of_mem _ hy)
    rw [eds_cons,List.filter_append,List.length_append,List.length_cons,Nat.mul_succ];omega
theorem Tg.some_no {n:Nat} {T:List T3} (h:Tg n T):∃v:Int,(0≤v∧v<n)∧(nxi n v,v) ∉ eds T:=by
  refine Classical.byContradiction fun hc=> ?_
  have hall:∀v:Int,0≤v→v<n→(nxi n v,v)∈eds T:=fun v h0 h1=>Decidable.byContradiction fun hm=>hc ⟨v,⟨h0,h1⟩,hm⟩
  have h3:=h.n3
  let F:=(List.range n).map (fun i:Nat=>((i:Int),nxi n (i:Int)))++(List.range n).map (fun i:Nat=>(nxi n (i:Int),(i:Int)))
  have hF:F.length=2*n:=by show (_++_:List E2).length=_;rw [List.length_append,List.length_map,List.length_map,List.length_range];omega
  have hnd:F.Nodup:=by
    refine List.nodup_append.2 ⟨nd_map List.nodup_range fun a _ b _ e=> ?_,nd_map List.nodup_range fun a _ b _ e=> ?_,fun a ha b hb e=> ?_⟩
    · have:=congrArg Prod.fst e;dsimp only at this;omega
    · have:=congrArg Prod.snd e;dsimp only at this;omega
    · obtain ⟨i, hi, e1⟩ := List.mem_map.1 ha
      obtain ⟨j,hj,e2⟩:=List.mem_map.1 hb
      rw [List.mem_range] at hi hj
      have a1:=nxi_c (n:=n) (a:=(i:Int)) (by omega) (by omega)
      have a2:=nxi_c (n:=n) (a:=(j:Int)) (by omega) (by omega)
      rw [← e1,←e2] at e
      have e3:=congrArg Prod.fst e
      have e4:=congrArg Prod.snd e
      dsimp only at e3 e4;omega
  have hsub:∀x∈F,x∈(eds T).filter (pe n):=fun x hx=>by
    rcases List.mem_append.1 hx with hx|hx
    · obtain ⟨i, hi, rfl⟩ := List.mem_map.1 hx
      rw [List.mem_range] at hi
      exact List.mem_filter.2 ⟨h.bnd _ (by omega) (by omega),by unfold pe;simp⟩
    · obtain ⟨i, hi, rfl⟩ := List.mem_map.1 hx
      rw [List.mem_range] at hi
      exact List.mem_filter.2 ⟨hall _ (by omega) (by omega),by unfold pe;simp⟩
  have h1:=nd_len hnd hsub
  rw [hF] at h1
  have hl:=h.len
  by_cases k:4≤n
  · have := pe_sum (n := n) (m := 2) fun x hx => pe_two k (h.rng x hx)
    omega
  · have := pe_sum (n := n) (m := 3) (T := T) fun x hx => Nat.le_trans (List.length_filter_le _ _) (Nat.le_of_eq (edg_len x))
    omega
theorem Tg.down {n:Nat} {T:List T3} (h:Tg n T) {v:Nat} (hv:v<n) (hp:(nxi n (v:Int),(v:Int)) ∉ eds T):∀w:Nat,w≤v→(nxi n (w:Int),(w:Int)) ∉ eds T:=by
  induction v with
  | zero => intro w hw; have e : w = 0 := by omega
            rw [e];exact hp
  |succ v ih=>
    intro w hw
    by_cases e:w=v+1
    · subst e;exact hp
    · refine ih (by omega) ?_ w (by omega)
      have a1:=nxi_c (n:=n) (a:=(v:Int)) (by omega) (by omega)
      have e1:nxi n (v:Int)=((v+1:Nat):Int):=by omega
      have:=(h.fan (χ:=fun _=>true) (u:=(v:Int)) (v:=((v+1:Nat):Int)) (by omega) e1 (fun x _=>bal_true x) rfl hp).2
      rw [e1];exact this
theorem Tg.no {n:Nat} {T:List T3} (h:Tg n T):∀v:Int,0≤v→v<n→(nxi n v,v) ∉ eds T:=by
  have h3:=h.n3
  obtain ⟨v0,⟨a,b⟩,hp⟩:=h.some_no
  obtain ⟨v,rfl⟩:∃v:Nat,v0=(v:Int):=⟨v0.toNat,by omega⟩
  have h0:=h.down (by omega) hp 0 (by omega)
  have a1:=nxi_c (n:=n) (a:=((n - 1:Nat):Int)) (by omega) (by omega)
  have e1:nxi n ((n - 1:Nat):Int)=((0:Nat):Int):=by omega
  have hn:=(h.fan (χ:=fun _=>true) (u:=((n - 1:Nat):Int)) (v:=((0:Nat):Int)) (by omega) e1 (fun x _=>bal_true x) rfl h0).2
  intro w hw hw2
  obtain ⟨k,rfl⟩:∃k:Nat,w=(k:Int):=⟨w.toNat,by omega⟩
  exact h.down (v:=n - 1) (by omega) (by rw [e1];exact hn) k (by omega)
end Go.Proofs.YtjcpbhlijoigfaaGreat.Pg
namespace Go.Proofs.YtjcpbhlijoigfaaGreat.Pg
set_option linter.unusedVariables false
def smE (f:E2→Int):List E2→Int
  |[]=>0
  |e :: L=>f e+smE f L
theorem smE_append (f:E2→Int) (A B:List E2):smE f (A++B)=smE f A+smE f B:=by
  induction A with
  |nil=>simp [smE]
  |cons a A ih=>rw [List.cons_append];simp only [smE];rw [ih];omega
theorem smE_perm {f:E2→Int} {A B:List E2} (h:A.Perm B):smE f A=smE f B:=by
  induction h with
  |nil=>rfl
  |cons a _ ih=>simp only [smE];rw [ih]
  |swap a b l=>simp only [smE];omega
  |trans _ _ h1 h2=>rw [h1,h2]
theorem smE_split (f:E2→Int) (p:E2→Bool) (A:List E2):smE f A=smE f (A.filter p)+smE f (A.filter (fun e=> !p e)):=by
  induction A with
  |nil=>rfl
  |cons a A ih=>
    rw [List.filter_cons,List.filter_cons]
    cases p a
    · simp only [Bool.false_eq_true,if_false,Bool.not_false,if_true,smE];rw [ih];omega
    · simp only [if_true,Bool.not_true,Bool.false_eq_true,if_false,smE];rw [ih];omega
theorem smE_map (f:E2→Int) (g:E2→E2) (A:List E2) (h:∀e∈A,f (g e)= - f e):smE f (A.map g)= - smE f A:=by
  induction A with
  |nil=>rfl
  |cons a A ih=>
    rw [List.map_cons]
    simp only [smE]
    rw [ih fun e he=>h e (List.mem_cons_of_mem _ he),h a (List.mem_cons_self ..)];omega
theorem zxf {A B:List E2} (ha:A.Nodup) (hb:B.Nodup) (h:∀e,e∈A↔e∈B):A.Perm B:=(List.perm_ext_iff_of_nodup ha hb).2 h
def pt (l:List P2) (a:Int):P2:=gt l a.toNat
def fx (l:List P2) (e:E2):Int:=(pt l e.1).1*(pt l e.2).2 - (pt l e.2).1*(pt l e.1).2
def cT (l:List P2) (x:T3):Int:=crs (pt l x.1) (pt l x.2.1) (pt l x.2.2)
theorem cT_edg (l:List P2) (x:T3):smE (fx l) (edg x)=cT l x:=by
  unfold edg cT crs fx
  simp only [smE]
  generalize (pt l x.1)=a
  generalize (pt l x.2.1)=b
  generalize (pt l x.2.2)=c
  grind
def cS (l:List P2):List T3→Int
  |[]=>0
  |x :: T=>cT l x+cS l T
theorem cS_eds (l:List P2):∀T,cS l T=smE (fx l) (eds T)
  |[]=>rfl
  |x :: T=>by rw [eds_cons,smE_append,cT_edg,←cS_eds l T];rfl
theorem db_sum {l:List P2} {n:Nat} (hn:l.length=n):∀i:Nat,i≤n→smE (fx l) ((List.range i).map (fun i:Nat=>((i:Int),nxi n (i:Int))))=dbN n l i
  |0,_=>rfl
  |i+1,hi=>by
    rw [List.range_succ,List.map_append,smE_append,db_sum hn i (by omega)]
    show dbN n l i+(fx l _+0)=dbN n l i+tm n l i
    rw [Int.add_zero]
    have e:(nxi n (i:Int)).toNat=(i+1)%n:=by
      have:=nxi_c (n:=n) (a:=(i:Int)) (by omega) (by omega)
      have:=md_c (x:=i+1) (m:=n) (by omega)
      omega
    unfold fx pt tm
    dsimp only
    rw [e]
    rfl
theorem Tg.area {n:Nat} {T:List T3} {l:List P2} (h:Tg n T) (hn:l.length=n):cS l T=db l:=by
  rw [cS_eds,smE_split _ (fun e=>decide (e.2=nxi n e.1))]
  have h3:=h.n3
  have hR:smE (fx l) ((eds T).filter (fun e=> !decide (e.2=nxi n e.1)))=0:=by
    have hnd:=h.nd.filter (fun e=> !decide (e.2=nxi n e.1))
    have hp:(((eds T).filter (fun e=> !decide (e.2=nxi n e.1))).map (fun e=>(e.2,e.1))).Perm ((eds T).filter (fun e=> !decide (e.2=nxi n e.1))):=by
      have hc:∀e∈(eds T).filter (fun e=> !decide (e.2=nxi n e.1)),(e.2,e.1)∈(eds T).filter (fun e=> !decide (e.2=nxi n e.1)):=fun e he=>by
        obtain ⟨h1,h2⟩:=List.mem_filter.1 he
        have h2':e.2≠nxi n e.1:=by simpa using h2
        have h4:=h.rev e h1 h2'
        have h5:=h.er h1
        refine List.mem_filter.2 ⟨h4,?_⟩
        have:e.1≠nxi n e.2:=fun k=>h.no e.2 h5.2.1 h5.2.2 (by rw [← k];exact h1)
        simpa using this
      refine zxf (nd_map hnd fun a _ b _ e=>Prod.ext (congrArg Prod.snd e) (congrArg Prod.fst e)) hnd fun e=>⟨fun he=> ?_,fun he=> ?_⟩
      · obtain ⟨g, hg, rfl⟩ := List.mem_map.1 he
        exact hc g hg
      · exact List.mem_map.2 ⟨(e.2,e.1),hc e he,rfl⟩
    have h1:=smE_perm (f:=fx l) hp
    have h2:=smE_map (fx l) (fun e:E2=>(e.2,e.1)) ((eds T).filter (fun e=> !decide (e.2=nxi n e.1))) (fun e _=>by unfold fx;dsimp only;omega)
    have key:∀z w:Int,z=w→w= -z→z=0:=fun z w a b=>by omega
    exact key _ _ h1.symm h2
  have hB:smE (fx l) ((eds T).filter (fun e=>decide (e.2=nxi n e.1)))=dbN n l n:=by
    rw [← db_sum hn n (Nat.le_refl _)]
    refine smE_perm (zxf (h.nd.filter _) (nd_map List.nodup_range fun a _ b _ e=>by have:=congrArg Prod.fst e;dsimp only at this;omega) fun e=>⟨fun he=> ?_,fun he=> ?_⟩)
    · obtain ⟨h1, h2⟩ := List.mem_filter.1 he
      have h2':e.2=nxi n e.1:=by simpa using h2
      have h5:=h.er h1
      refine List.mem_map.2 ⟨e.1.toNat,List.mem_range.2 (by omega),?_⟩
      have e1:((e.1.toNat:Nat):Int)=e.1:=by omega
      rw [e1];exact Prod.ext rfl h2'.symm
    · obtain ⟨i, hi, rfl⟩ := List.mem_map.1 he
      rw [List.mem_range] at hi
      exact List.mem_filter.2 ⟨h.bnd _ (by omega) (by omega),by simp⟩
  rw [hR,hB,Int.add_zero,db,hn]
theorem crs_cyc (a b c:P2):crs a b c=crs b c a:=by unfold crs;grind
theorem crs_swap (a b c:P2):crs a b c= - crs a c b:=by unfold crs;grind
theorem line_go {v w b c:P2} (hbc:crs v b c=0) (hb:b≠v) (h:crs v w b=0):crs v w c=0:=by
  unfold crs at*
  generalize hB1:b.1 - v.1=B1 at*
  generalize hB2:b.2 - v.2=B2 at*
  generalize c.1 - v.1=C1 at*
  generalize c.2 - v.2=C2 at*
  generalize w.1 - v.1=W1 at*
  generalize w.2 - v.2=W2 at*
  have e1:B1*(W1*C2 - W2*C1)=0:=by
    have:B1*(W1*C2 - W2*C1)=C1*(W1*B2 - W2*B1)+W1*(B1*C2 - B2*C1):=by grind
    rw [this,h,hbc];simp
  have e2:B2*(W1*C2 - W2*C1)=0:=by
    have:B2*(W1*C2 - W2*C1)=C2*(W1*B2 - W2*B1)+W2*(B1*C2 - B2*C1):=by grind
    rw [this,h,hbc];simp
  rcases Int.mul_eq_zero.1 e1 with k|k
  · rcases Int.mul_eq_zero.1 e2 with k2 | k2
    · exact absurd (Prod.ext (by omega) (by omega)) hb
    · exact k2
  · exact k
theorem line_iff {v w b c:P2} (hbc:crs v b c=0) (hb:b≠v) (hc:c≠v):crs v w b=0↔crs v w c=0:=
  ⟨line_go hbc hb,line_go (by rw [crs_swap];omega) hc⟩
def lnB (l:List P2) (v w:P2) (x:Int):Bool:=decide (crs v w (pt l x)=0)
theorem bal_line {l:List P2} {n:Nat} (hn:l.length=n) (hd:l.Nodup) {v:Int} (hv:0≤v∧v<n) (w:P2) {x:T3} (hr:(0≤x.1∧x.1<n)∧(0≤x.2.1∧x.2.1<n)∧(0≤x.2.2∧x.2.2<n)) (hc:cT l x=0):bal (lnB l (pt l v) w) v x:=by
  obtain ⟨a,b,c⟩:=x
  obtain ⟨h1,h2,h3⟩:=hr
  dsimp only at h1 h2 h3
  have inj:∀y:Int,0≤y∧y<n→y≠v→pt l y≠pt l v:=fun y hy hne he=>by
    unfold pt gt at he
    rw [List.getD_eq_getElem?_getD,List.getD_eq_getElem?_getD,List.getElem?_eq_getElem (by omega),List.getElem?_eq_getElem (by omega)] at he
    have he2:l[y.toNat]'(by omega)=l[v.toNat]'(by omega):=he
    have hp:=List.pairwise_iff_getElem.1 hd
    rcases Nat.lt_trichotomy y.toNat v.toNat with k|k|k
    · exact hp _ _ (by omega) (by omega) k he2
    · omega
    · exact hp _ _ (by omega) (by omega) k he2.symm
  have hc0:crs (pt l a) (pt l b) (pt l c)=0:=hc
  have hc1:crs (pt l b) (pt l c) (pt l a)=0:=by rw [← crs_cyc];exact hc0
  have hc2:crs (pt l c) (pt l a) (pt l b)=0:=by rw [← crs_cyc];exact hc1
  unfold bal edg lnB
  simp only [List.filter_cons,List.filter_nil]
  by_cases ea:a=v <;> by_cases eb:b=v <;> by_cases ec:c=v
  · simp [ea,eb,ec]
  · subst ea;subst eb;simp [ec] <;> (repeat' split) <;> rfl
  · subst ea;subst ec;simp [eb] <;> (repeat' split) <;> rfl
  · subst ea
    have:=line_iff (w:=w) hc0 (inj b h2 eb) (inj c h3 ec)
    simp [eb,ec,this];split <;> rfl
  · subst eb;subst ec;simp [ea] <;> (repeat' split) <;> rfl
  · subst eb
    have:=line_iff (w:=w) hc1 (inj c h3 ec) (inj a h1 ea)
    simp [ea,ec,this];split <;> rfl
  · subst ec
    have:=line_iff (w:=w) hc2 (inj a h1 ea) (inj b h2 eb)
    simp [ea,eb,this];split <;> rfl
  · simp [ea,eb,ec]
theorem Tg.line {n:Nat} {T:List T3} {l:List P2} (h:Tg n T) (hn:l.length=n) (hd:l.Nodup) (hz:∀x∈T,cT l x=0) {u:Int} (hu:0≤u∧u<n):crs (pt l (nxi n u)) (pt l (nxi n (nxi n u))) (pt l u)=0:=by
  have h3:=h.n3
  have hv:0≤nxi n u∧nxi n u<n:=by have:=nxi_c hu.1 hu.2;omega
  have:=(h.fan (χ:=lnB l (pt l (nxi n u)) (pt l (nxi n (nxi n u)))) hu rfl (fun x hx=>bal_line hn hd hv _ (h.rng x hx) (hz x hx)) (by unfold lnB crs;simp;grind) (h.no _ hv.1 hv.2)).1
  unfold lnB at this
  simpa using this
def lx (p q:P2):Prop:=p.1<q.1∨p.1=q.1∧p.2<q.2
theorem lx_tri (p q:P2):lx p q∨p=q∨lx q p:=by
  unfold lx
  by_cases h:p=q
  · exact .inr (.inl h)
  · have : ¬ (p.1 = q.1 ∧ p.2 = q.2) := fun k => h (Prod.ext k.1 k.2)
    omega
theorem lx_trans {p q r:P2} (h:lx p q) (k:lx q r):lx p r:=by unfold lx at *;omega
theorem mid {a b c:P2} (hc:crs a c b=0) (h1:lx a b∨a=b) (h2:lx b c):betw a c b:=by
  have e1:a.1≤b.1:=by rcases h1 with h1|h1;unfold lx at h1;omega;subst h1;omega
  have e2:b.1≤c.1:=by unfold lx at h2;omega
  by_cases k:a.1=c.1
  · have e3 : a.2 ≤ b.2 := by rcases h1 with h1 | h1; unfold lx at h1; omega; subst h1; omega
    have e4:b.2<c.2:=by unfold lx at h2;omega
    unfold betw;omega
  · unfold crs at hc
    have hD:0<c.1 - a.1:=by omega
    have h3:(c.1 - a.1)*(b.2 - a.2)=(c.2 - a.2)*(b.1 - a.1):=by omega
    have ht0:0≤b.1 - a.1:=by omega
    have ht1:b.1 - a.1≤c.1 - a.1:=by omega
    by_cases y:0≤c.2 - a.2
    · have h4 := Int.mul_nonneg y ht0
      have h5:=Int.mul_le_mul_of_nonneg_left ht1 y
      have h6:0≤b.2 - a.2:=Int.le_of_mul_le_mul_left (a:=c.1 - a.1) (by rw [Int.mul_zero,h3];exact h4) hD
      have h7:b.2 - a.2≤c.2 - a.2:=Int.le_of_mul_le_mul_left (a:=c.1 - a.1) (by rw [h3,Int.mul_comm (c.1 - a.1)];exact h5) hD
      unfold betw;omega
    · have y' : 0 ≤ a.2 - c.2 := by omega
      have h4:=Int.mul_nonneg y' ht0
      have h5:=Int.mul_le_mul_of_nonneg_left ht1 y'
      have e5:(a.2 - c.2)*(b.1 - a.1)=(c.1 - a.1)*(a.2 - b.2):=by grind
      have h6:0≤a.2 - b.2:=Int.le_of_mul_le_mul_left (a:=c.1 - a.1) (by rw [Int.mul_zero,←e5];exact h4) hD
      have h7:a.2 - b.2≤a.2 - c.2:=Int.le_of_mul_le_mul_left (a:=c.1 - a.1) (by rw [← e5,Int.mul_comm (c.1 - a.1)];exact h5) hD
      unfold betw;omega
theorem corner {u v w:P2} (hc:crs v w u=0) (h1:lx u v) (h2:lx w v):onS u v w∨onS v w u:=by
  rcases lx_tri u w with k|k|k
  · exact .inl ⟨by rw [crs_cyc];exact hc,mid (by rw [crs_cyc];exact hc) (.inl k) h2⟩
  · exact .inl ⟨by rw [crs_cyc];exact hc,mid (by rw [crs_cyc];exact hc) (.inr k) h2⟩
  · exact .inr ⟨hc,betw_sw.1 (mid (by rw [crs_sw];omega) (.inl k) h1)⟩
theorem greatest {l:List P2} {n:Nat} (h0:0<n):∀i,i<n→∃m,m≤i∧∀j,j≤i→gt l j=gt l m∨lx (gt l j) (gt l m)
  |0,_=>⟨0,Nat.le_refl _,fun j hj=>by rw [show j=0 by omega];exact .inl rfl⟩
  |i+1,hi=>by
    obtain ⟨m,hm,h⟩:=greatest (l:=l) h0 i (by omega)
    rcases lx_tri (gt l (i+1)) (gt l m) with k|k|k
    · refine ⟨m, by omega, fun j hj => ?_⟩
      by_cases e:j=i+1
      · subst e;exact .inr k
      · exact h j (by omega)
    · refine ⟨m, by omega, fun j hj => ?_⟩
      by_cases e:j=i+1
      · subst e;exact .inl k
      · exact h j (by omega)
    · refine ⟨i + 1, by omega, fun j hj => ?_⟩
      by_cases e:j=i+1
      · subst e;exact .inl rfl
      · rcases h j (by omega) with q | q
        · rw [q];exact .inr k
        · exact .inr (lx_trans q k)
theorem Sm.inj {n:Nat} {l:List P2} (h:Sm n l) {i j:Nat} (hi:i<n) (hj:j<n) (e:gt l i=gt l j):i=j:=by
  have hl:=h.len
  unfold gt at e
  rw [List.getD_eq_getElem?_getD,List.getD_eq_getElem?_getD,List.getElem?_eq_getElem (by omega),List.getElem?_eq_getElem (by omega)] at e
  have he2:l[i]'(by omega)=l[j]'(by omega):=e
  have hp:=List.pairwise_iff_getElem.1 h.nd
  rcases Nat.lt_trichotomy i j with k|k|k
  · exact absurd he2 (hp _ _ (by omega) (by omega) k)
  · exact k
  · exact absurd he2.symm (hp _ _ (by omega) (by omega) k)
end Go.Proofs.YtjcpbhlijoigfaaGreat.Pg
namespace Go.Proofs.YtjcpbhlijoigfaaGreat.Pg
set_option linter.unusedVariables false
def inT (n:Nat) (x:T3):Prop:=(0≤x.1∧x.1<n)∧(0≤x.2.1∧x.2.1<n)∧(0≤x.2.2∧x.2.2<n)
instance (n:Nat) (x:T3):Decidable (inT n x):=inferInstanceAs (Decidable (_∧_))
def acP (n:Nat) (l:List P2) (T:List T3):Prop:=(T.length:Int)=n - 2∧(∀x∈T,inT n x∧0<sg l*(cT l x).sign)∧(eds T).Nodup∧(∀e∈eds T,e.2≠nxi n e.1→(e.2,e.1)∈eds T)∧∀i:Nat,i<n→((i:Int),nxi n (i:Int))∈eds T
def tms (T:List T3) (a b:Int):Nat:=(eds T).count (a,b)
def acR (n:Nat) (l:List P2) (T:List T3):Prop:=(T.length:Int)=n - 2∧(∀x∈T,inT n x∧(cT l x).sign=(db l).sign)∧(∀e∈eds T,tms T e.1 e.2=1∧(e.2=nxi n e.1∨tms T e.2 e.1=1))∧∀i:Nat,i<n→tms T (i:Int) (nxi n (i:Int))=1
def t1 (p q a b:Int):Nat:=if p=a∧q=b then 1 else 0
instance (n:Nat) (l:List P2) (T:List T3):Decidable (acR n l T):=inferInstanceAs (Decidable (_∧_))
instance (n:Nat) (l:List P2) (T:List T3):Decidable (acP n l T):=inferInstanceAs (Decidable (_∧_))
end Go.Proofs.YtjcpbhlijoigfaaGreat.Pg
namespace Go.Proofs.YtjcpbhlijoigfaaGreat.Er
set_option linter.unusedVariables false
section
variable {α : Type}
def path:List α→List (α×α)
  |[]=>[]
  |[_]=>[]
  |a :: b :: r=>(a,b) :: path (b :: r)
def cyc:List α→List (α×α)
  |[]=>[]
  |a :: r=>path (a :: r++[a])
theorem path_app (m:α) (Y:List α):∀X:List α,path (X++m :: Y)=path (X++[m])++path (m :: Y)
  |[]=>rfl
  |[a]=>rfl
  |a :: b :: X=>by
    have:=path_app m Y (b :: X)
    show (a,b) :: path (b :: X++m :: Y)=((a,b) :: path (b :: X++[m]))++path (m :: Y)
    rw [this];rfl
theorem path_map {β:Type} (f:α→β):∀X:List α,path (X.map f)=(path X).map (fun e=>(f e.1,f e.2))
  |[]=>rfl
  |[a]=>rfl
  |a :: b :: X=>by
    show (f a,f b) :: path ((b :: X).map f)=_
    rw [path_map f (b :: X)];rfl
theorem cyc_map {β:Type} (f:α→β) (X:List α):cyc (X.map f)=(cyc X).map (fun e=>(f e.1,f e.2)):=by
  cases X with
  |nil=>rfl
  |cons a r=>
    show path (f a :: r.map f++[f a])=_
    rw [show f a :: r.map f++[f a]=(a :: r++[a]).map f by simp,path_map];rfl
theorem path_fst (m:α):∀X:List α,(path (X++[m])).map (·.1)=X
  |[]=>rfl
  |[a]=>rfl
  |a :: b :: X=>by
    show a :: (path (b :: X++[m])).map (·.1)=_
    rw [path_fst m (b :: X)]
theorem path_snd (m:α):∀X:List α,(path (m :: X)).map (·.2)=X
  |[]=>rfl
  |a :: X=>by
    show a :: (path (a :: X)).map (·.2)=_
    rw [path_snd a X]
theorem cyc_fst (L:List α):(cyc L).map (·.1)=L:=by
  cases L with
  |nil=>rfl
  |cons a r=>exact path_fst a (a :: r)
theorem cyc_snd (a:α) (r:List α):(cyc (a :: r)).map (·.2)=r++[a]:=path_snd a (r++[a])
theorem cyc_len (L:List α):(cyc L).length=L.length:=by rw [← List.length_map (·.1),cyc_fst]
theorem cyc_split (i:α) (A:List α) (j:α) (B:List α):cyc (i :: A++j :: B)=path (i :: A++[j])++path (j :: B++[i]):=by
  show path (i :: (A++j :: B)++[i])=_
  rw [show i :: (A++j :: B)++[i]=i :: A++j :: (B++[i]) by simp,path_app];simp
theorem cyc_left (i:α) (A:List α) (j:α):cyc (i :: A++[j])=path (i :: A++[j])++[(j,i)]:=cyc_split i A j []
theorem cyc_rot (X Y:List α):(cyc (X++Y)).Perm (cyc (Y++X)):=by
  cases X with
  |nil=>simp
  |cons i A=>
    cases Y with
    |nil=>simp
    |cons j B=>
      rw [cyc_split,cyc_split]
      exact List.perm_append_comm
theorem path_mem {a x y:α}:∀{r:List α},(x,y)∈path (a :: r)→x∈a :: r∧y∈r:=fun {r} h=>by
  refine ⟨?_,?_⟩
  · have:∀X:List α,(x,y)∈path X→x∈X:=fun X=>by
      induction X with
      |nil=>intro h;cases h
      |cons b X ih=>
        cases X with
        |nil=>intro h;cases h
        |cons c X=>
          intro h
          rcases List.mem_cons.1 h with h|h
          · cases h;exact List.mem_cons_self ..
          · exact List.mem_cons_of_mem _ (ih h)
    exact this _ h
  · have := List.mem_map_of_mem (f := (·.2)) h
    rw [path_snd] at this;exact this
theorem cyc_mem {x y:α} {L:List α} (h:(x,y)∈cyc L):x∈L∧y∈L:=by
  refine ⟨?_,?_⟩
  · have := List.mem_map_of_mem (f := (·.1)) h
    rw [cyc_fst] at this;exact this
  · cases L with
    |nil=>cases h
    |cons a r=>
      have:=List.mem_map_of_mem (f:=(·.2)) h
      rw [cyc_snd] at this
      simp at this ⊢
      rcases this with k|k
      · exact .inr k
      · exact .inl k
theorem map_inj {β γ:Type} {f:β→γ} {l:List β} (h:(l.map f).Nodup) {a b:β} (ha:a∈l) (hb:b∈l) (e:f a=f b):a=b:=by
  induction l with
  |nil=>cases ha
  |cons c l ih=>
    rw [List.map_cons] at h
    obtain ⟨h1,h2⟩:=List.nodup_cons.1 h
    rcases List.mem_cons.1 ha with ka|ka <;> rcases List.mem_cons.1 hb with kb|kb
    · rw [ka,kb]
    · subst ka;exact absurd (by rw [e];exact List.mem_map_of_mem kb) h1
    · subst kb;exact absurd (by rw [← e];exact List.mem_map_of_mem ka) h1
    · exact ih h2 ka kb
theorem nd_of_map {β γ:Type} {f:β→γ} {l:List β} (h:(l.map f).Nodup):l.Nodup:=by
  induction l with
  |nil=>exact List.nodup_nil
  |cons c l ih=>
    rw [List.map_cons] at h
    obtain ⟨h1,h2⟩:=List.nodup_cons.1 h
    exact List.nodup_cons.2 ⟨fun k=>h1 (List.mem_map_of_mem k),ih h2⟩
theorem cyc_nd {L:List α} (h:L.Nodup):(cyc L).Nodup:=nd_of_map (f:=(·.1)) (by rw [cyc_fst];exact h)
theorem cyc_succ {L:List α} (h:L.Nodup) {a b c:α} (h1:(a,b)∈cyc L) (h2:(a,c)∈cyc L):b=c:=by
  have:=map_inj (f:=(·.1)) (by rw [cyc_fst];exact h) h1 h2 rfl
  exact congrArg (·.2) this
theorem nd_rot {X Y:List α} (h:(X++Y).Nodup):(Y++X).Nodup:=(List.perm_append_comm.nodup_iff).1 h
theorem cyc_pred {L:List α} (h:L.Nodup) {a b c:α} (h1:(a,c)∈cyc L) (h2:(b,c)∈cyc L):a=b:=by
  cases L with
  |nil=>cases h1
  |cons x r=>
    have:=map_inj (f:=(·.2)) (by rw [cyc_snd];exact nd_rot (X:=[x]) h) h1 h2 rfl
    exact congrArg (·.1) this
theorem cyc_ex {L:List α} {x:α} (h:x∈L):∃y,(x,y)∈cyc L:=by
  rw [← cyc_fst L] at h
  obtain ⟨e,he,rfl⟩:=List.mem_map.1 h
  exact ⟨e.2,he⟩
def edgG (x:α×α×α):List (α×α):=[(x.1,x.2.1),(x.2.1,x.2.2),(x.2.2,x.1)]
def edsG (T:List (α×α×α)):List (α×α):=T.flatMap edgG
theorem edsG_app (A B:List (α×α×α)):edsG (A++B)=edsG A++edsG B:=List.flatMap_append ..
theorem edsG_cons (x:α×α×α) (B:List (α×α×α)):edsG (x :: B)=edgG x++edsG B:=rfl
def rotT (t:α×α×α) (a b c:α):Prop:=t=(a,b,c)∨t=(b,c,a)∨t=(c,a,b)
theorem mem_edg {t:α×α×α} {e:α×α} (h:e∈edgG t):∃z,rotT t e.1 e.2 z:=by
  obtain ⟨a,b,c⟩:=t
  unfold edgG at h
  rcases List.mem_cons.1 h with rfl|h
  · exact ⟨c,.inl rfl⟩
  rcases List.mem_cons.1 h with rfl|h
  · exact ⟨a,.inr (.inr rfl)⟩
  rw [List.mem_singleton] at h;subst h
  exact ⟨b,.inr (.inl rfl)⟩
theorem rot_edg {t:α×α×α} {a b c:α} (h:rotT t a b c):(a,b)∈edgG t∧(b,c)∈edgG t∧(c,a)∈edgG t:=by
  rcases h with rfl|rfl|rfl <;> unfold edgG <;> simp
theorem mem_eds {T:List (α×α×α)} {e:α×α} (h:e∈edsG T):∃t∈T,∃z,rotT t e.1 e.2 z:=by
  obtain ⟨t,ht,k⟩:=List.mem_flatMap.1 h
  exact ⟨t,ht,mem_edg k⟩
theorem eds_mem {T:List (α×α×α)} {t:α×α×α} (ht:t∈T) {e:α×α} (h:e∈edgG t):e∈edsG T:=List.mem_flatMap.2 ⟨t,ht,h⟩
def sm (f:α×α→Int):List (α×α)→Int
  |[]=>0
  |e :: L=>f e+sm f L
theorem sm_app (f:α×α→Int) (A B:List (α×α)):sm f (A++B)=sm f A+sm f B:=by
  induction A with
  |nil=>simp [sm]
  |cons a A ih=>rw [List.cons_append];simp only [sm];rw [ih];omega
theorem sm_perm {f:α×α→Int} {A B:List (α×α)} (h:A.Perm B):sm f A=sm f B:=by
  induction h with
  |nil=>rfl
  |cons a _ ih=>simp only [sm];rw [ih]
  |swap a b l=>simp only [sm];omega
  |trans _ _ h1 h2=>rw [h1,h2]
structure Tr (L:List α) (T:List (α×α×α)):Prop where
  len:T.length+2=L.length
  mem:∀x∈T,x.1∈L∧x.2.1∈L∧x.2.2∈L
  ne:∀e∈edsG T,e.1≠e.2
  nd:(edsG T).Nodup
  cy:∀e∈cyc L,e∈edsG T
  rev:∀e∈edsG T,e ∉ cyc L→(e.2,e.1)∈edsG T
  no:∀e∈cyc L,(e.2,e.1) ∉ edsG T
  st:∀f:α×α→Int,(∀a b:α,f (b,a)= - f (a,b))→sm f (edsG T)=sm f (cyc L)
theorem Tr.em {L:List α} {T:List (α×α×α)} (h:Tr L T) {e:α×α} (he:e∈edsG T):e.1∈L∧e.2∈L:=by
  obtain ⟨t,ht,k⟩:=List.mem_flatMap.1 he
  obtain ⟨h1,h2,h3⟩:=h.mem t ht
  unfold edgG at k
  rcases List.mem_cons.1 k with rfl|k
  · exact ⟨h1,h2⟩
  rcases List.mem_cons.1 k with rfl|k
  · exact ⟨h2,h3⟩
  rw [List.mem_singleton] at k;subst k
  exact ⟨h3,h1⟩
theorem Tr.rot {X Y:List α} {T:List (α×α×α)} (h:Tr (X++Y) T):Tr (Y++X) T:=by
  have hp:=cyc_rot X Y
  have hm:∀x,x∈X++Y→x∈Y++X:=fun x hx=>List.perm_append_comm.mem_iff.1 hx
  refine ⟨?_,fun x hx=> ?_,h.ne,h.nd,fun e he=>h.cy e (hp.mem_iff.2 he),fun e he hc=>h.rev e he fun k=>hc (hp.mem_iff.1 k),fun e he=>h.no e (hp.mem_iff.2 he),fun f hf=> ?_⟩
  · have := h.len
    rw [List.length_append] at this ⊢;omega
  · obtain ⟨a, b, c⟩ := h.mem x hx
    exact ⟨hm _ a,hm _ b,hm _ c⟩
  · rw [h.st f hf,sm_perm hp]
theorem Tr.perm {L:List α} {T U:List (α×α×α)} (h:Tr L T) (p:T.Perm U):Tr L U:=by
  have hp:(edsG T).Perm (edsG U):=List.Perm.flatMap_right _ p
  refine ⟨by rw [← p.length_eq];exact h.len,fun x hx=>h.mem x (p.mem_iff.2 hx),fun e he=>h.ne e (hp.mem_iff.2 he),hp.nodup_iff.1 h.nd,fun e he=>hp.mem_iff.1 (h.cy e he),fun e he hc=>hp.mem_iff.1 (h.rev e (hp.mem_iff.2 he) hc),fun e he k=>h.no e he (hp.mem_iff.2 k),fun f hf=> ?_⟩
  rw [← sm_perm hp];exact h.st f hf
theorem Tr.three {a b c:α} (h1:a≠b) (h2:b≠c) (h3:a≠c):Tr [a,b,c] [(a,b,c)]:=by
  have e1:edsG [(a,b,c)]=[(a,b),(b,c),(c,a)]:=rfl
  have e2:cyc [a,b,c]=[(a,b),(b,c),(c,a)]:=rfl
  refine ⟨rfl,fun x hx=> ?_,fun e he=> ?_,?_,fun e he=> ?_,fun e he hc=> ?_,fun e he hc=> ?_,fun f hf=> ?_⟩
  · rw [List.mem_singleton] at hx;subst hx;simp
  · rw [e1] at he
    simp at he
    rcases he with rfl|rfl|rfl
    · exact h1
    · exact h2
    · exact h3.symm
  · rw [e1]
    simp
    refine ⟨⟨fun k=>absurd k h1,fun k=> ?_⟩,fun k=> ?_⟩
    · first|exact absurd k h3|exact absurd k.symm h2|exact absurd k h2|exact absurd k.symm h3
    · first|exact absurd k h3|exact absurd k.symm h2|exact absurd k h2|exact absurd k.symm h3
  · rw [e2] at he;rw [e1];exact he
  · exact absurd he (by rw [e1,←e2];exact hc)
  · rw [e2] at he
    rw [e1] at hc
    simp at he hc
    rcases he with rfl|rfl|rfl
    · simp_all
    · simp_all
      rcases hc with k|k
      · exact h3 k.symm
      · exact h1 k.symm
    · simp_all
  · rw [e1,e2]
section
variable {i j : α} {A B : List α}
theorem gl_com (hn:(i :: A++j :: B).Nodup) {x:α} (h1:x∈i :: A++[j]) (h2:x∈j :: B++[i]):x=i∨x=j:=by
  have hd:=(List.nodup_append.1 hn).2.2
  by_cases k:x=j
  · exact .inr k
  · refine .inl (Classical.byContradiction fun k2 => ?_)
    have a1:x∈i :: A:=by
      rcases List.mem_append.1 h1 with q|q
      · exact q
      · exact absurd (List.mem_singleton.1 q) k
    have a2:x∈j :: B:=by
      rcases List.mem_append.1 h2 with q|q
      · exact q
      · exact absurd (List.mem_singleton.1 q) k2
    exact hd x a1 x a2 rfl
theorem gl_p1 (hn:(i :: A++j :: B).Nodup) (hA:A≠[]):(i,j) ∉ path (i :: A++[j])∧(j,i) ∉ path (i :: A++[j]):=by
  obtain ⟨n1,n2,n3⟩:=List.nodup_append.1 hn
  obtain ⟨m1,m2⟩:=List.nodup_cons.1 n1
  have hij:i≠j:=fun e=>n3 i (List.mem_cons_self ..) j (List.mem_cons_self ..) e
  have hnot:i ∉ A++[j]:=fun k=>by
    rcases List.mem_append.1 k with q|q
    · exact m1 q
    · exact hij (List.mem_singleton.1 q)
  cases A with
  |nil=>exact absurd rfl hA
  |cons a A=>
    refine ⟨fun h=> ?_,fun h=>hnot (path_mem h).2⟩
    rcases List.mem_cons.1 (show (i,j)∈(i,a) :: path (a :: A++[j]) from h) with k|k
    · exact n3 a (by simp) j (by simp) (congrArg (·.2) k).symm
    · exact hnot (path_mem k).1
theorem Tr.glue {T1 T2:List (α×α×α)} (hn:(i :: A++j :: B).Nodup) (hA:A≠[]) (hB:B≠[]) (h1:Tr (i :: A++[j]) T1) (h2:Tr (j :: B++[i]) T2):Tr (i :: A++j :: B) (T1++T2):=by
  have hc:=cyc_split i A j B
  have c1:=cyc_left i A j
  have c2:=cyc_left j B i
  have hn':(j :: B++i :: A).Nodup:=nd_rot hn
  obtain ⟨p1,p2⟩:=gl_p1 hn hA
  obtain ⟨q1,q2⟩:=gl_p1 hn' hB
  have both:∀e:α×α,e.1≠e.2→(e.1∈i :: A++[j]∧e.2∈i :: A++[j])→(e.1∈j :: B++[i]∧e.2∈j :: B++[i])→e=(i,j)∨e=(j,i):=fun e hne k1 k2=>by
    obtain ⟨a,b⟩:=e
    have u:=gl_com hn k1.1 k2.1
    have v:=gl_com hn k1.2 k2.2
    dsimp only at u v hne
    rcases u with rfl|rfl <;> rcases v with rfl|rfl
    · exact absurd rfl hne
    · exact .inl rfl
    · exact .inr rfl
    · exact absurd rfl hne
  have r1:(j,i)∈cyc (i :: A++[j]):=by rw [c1];simp
  have r2:(i,j)∈cyc (j :: B++[i]):=by rw [c2];simp
  have n1:(i,j) ∉ edsG T1:=h1.no _ r1
  have n2:(j,i) ∉ edsG T2:=h2.no _ r2
  have sub1:∀x,x∈i :: A++[j]→x∈i :: A++j :: B:=fun x hx=>by simp at hx ⊢;rcases hx with k|k|k <;> simp [k]
  have sub2:∀x,x∈j :: B++[i]→x∈i :: A++j :: B:=fun x hx=>by simp at hx ⊢;rcases hx with k|k|k <;> simp [k]
  refine ⟨?_,fun x hx=> ?_,fun e he=> ?_,?_,fun e he=> ?_,fun e he hcy=> ?_,fun e he hr=> ?_,fun f hf=> ?_⟩
  · have a1 := h1.len
    have a2:=h2.len
    simp at a1 a2 ⊢;omega
  · rcases List.mem_append.1 hx with k | k
    · obtain ⟨a, b, c⟩ := h1.mem x k
      exact ⟨sub1 _ a,sub1 _ b,sub1 _ c⟩
    · obtain ⟨a, b, c⟩ := h2.mem x k
      exact ⟨sub2 _ a,sub2 _ b,sub2 _ c⟩
  · rw [edsG_app] at he
    rcases List.mem_append.1 he with k|k
    · exact h1.ne e k
    · exact h2.ne e k
  · rw [edsG_app]
    refine List.nodup_append.2 ⟨h1.nd,h2.nd,fun e k1 e' k2 ee=> ?_⟩
    subst ee
    rcases both e (h1.ne e k1) (h1.em k1) (h2.em k2) with rfl|rfl
    · exact n1 k1
    · exact n2 k2
  · rw [edsG_app]
    rw [hc] at he
    rcases List.mem_append.1 he with k|k
    · exact List.mem_append.2 (.inl (h1.cy e (by rw [c1];exact List.mem_append.2 (.inl k))))
    · exact List.mem_append.2 (.inr (h2.cy e (by rw [c2];exact List.mem_append.2 (.inl k))))
  · rw [edsG_app] at he ⊢
    rw [hc] at hcy
    rcases List.mem_append.1 he with k|k
    · by_cases q : e ∈ cyc (i :: A ++ [j])
      · rw [c1] at q
        rcases List.mem_append.1 q with q|q
        · exact absurd (List.mem_append.2 (.inl q)) hcy
        · rw [List.mem_singleton] at q; subst q
          exact List.mem_append.2 (.inr (h2.cy _ r2))
      · exact List.mem_append.2 (.inl (h1.rev e k q))
    · by_cases q : e ∈ cyc (j :: B ++ [i])
      · rw [c2] at q
        rcases List.mem_append.1 q with q|q
        · exact absurd (List.mem_append.2 (.inr q)) hcy
        · rw [List.mem_singleton] at q; subst q
          exact List.mem_append.2 (.inl (h1.cy _ r1))
      · exact List.mem_append.2 (.inr (h2.rev e k q))
  · rw [edsG_app] at hr
    rw [hc] at he
    rcases List.mem_append.1 he with k|k
    · have kc : e ∈ cyc (i :: A ++ [j]) := by rw [c1]; exact List.mem_append.2 (.inl k)
      rcases List.mem_append.1 hr with q|q
      · exact h1.no e kc q
      · have hm := cyc_mem kc
        have hne:=h1.ne e (h1.cy e kc)
        have hm2:=h2.em q
        rcases both e hne hm ⟨hm2.2,hm2.1⟩ with rfl|rfl
        · exact p1 k
        · exact p2 k
    · have kc : e ∈ cyc (j :: B ++ [i]) := by rw [c2]; exact List.mem_append.2 (.inl k)
      rcases List.mem_append.1 hr with q|q
      · have hm := cyc_mem kc
        have hne:=h2.ne e (h2.cy e kc)
        have hm2:=h1.em q
        rcases both e hne ⟨hm2.2,hm2.1⟩ hm with rfl|rfl
        · exact q2 k
        · exact q1 k
      · exact h2.no e kc q
  · rw [edsG_app, sm_app, h1.st f hf, h2.st f hf, hc, c1, c2, sm_app, sm_app, sm_app]
    have:=hf i j
    simp only [sm]
    omega
end
theorem eds_cnt [DecidableEq α] (p:α×α→Bool):∀{T:List (α×α×α)},(∀t∈T,((edgG t).filter p).length≤1)→((edsG T).filter p).length≤T.length
  |[],_=>Nat.le_refl _
  |t :: T,h=>by
    have h1:=h t (List.mem_cons_self ..)
    have h2:=eds_cnt p (T:=T) fun x hx=>h x (List.mem_cons_of_mem _ hx)
    rw [edsG_cons,List.filter_append,List.length_append,List.length_cons];omega
theorem Tr.ear [DecidableEq α] {L:List α} {T:List (α×α×α)} (h:Tr L T) (hL:L.Nodup):∃t∈T,∃a b c,rotT t a b c∧(a,b)∈cyc L∧(b,c)∈cyc L:=by
  refine Classical.byContradiction fun hk=> ?_
  have h1:∀t∈T,((edgG t).filter fun e=>decide (e∈cyc L)).length≤1:=fun t ht=>by
    obtain ⟨a,b,c⟩:=t
    have k1:¬((a,b)∈cyc L∧(b,c)∈cyc L):=fun k=>hk ⟨_,ht,a,b,c,.inl rfl,k.1,k.2⟩
    have k2:¬((b,c)∈cyc L∧(c,a)∈cyc L):=fun k=>hk ⟨_,ht,b,c,a,.inr (.inr rfl),k.1,k.2⟩
    have k3:¬((c,a)∈cyc L∧(a,b)∈cyc L):=fun k=>hk ⟨_,ht,c,a,b,.inr (.inl rfl),k.1,k.2⟩
    unfold edgG
    simp only [List.filter_cons,List.filter_nil]
    by_cases b1:(a,b)∈cyc L <;> by_cases b2:(b,c)∈cyc L <;> by_cases b3:(c,a)∈cyc L <;> simp [b1,b2,b3] <;> simp_all
  have h2:=eds_cnt _ h1
  have h3:=Pg.nd_len (I:=cyc L) (O:=(edsG T).filter fun e=>decide (e∈cyc L)) (cyc_nd hL) fun e he=>List.mem_filter.2 ⟨h.cy e he,by simpa using he⟩
  rw [cyc_len] at h3
  have:=h.len
  omega
theorem Tr.cor {L:List α} {T:List (α×α×α)} (h:Tr L T) {x:α} (hx:x∈L):∃t∈T,∃y z,rotT t x y z:=by
  obtain ⟨y,hy⟩:=cyc_ex hx
  obtain ⟨t,ht,z,hz⟩:=mem_eds (h.cy _ hy)
  exact ⟨t,ht,y,z,hz⟩
end
end Go.Proofs.YtjcpbhlijoigfaaGreat.Er
namespace Go.Proofs.YtjcpbhlijoigfaaGreat.Sw
set_option linter.unusedVariables false
theorem lt_or_le (a b:Rat):a<b∨b≤a:=by grind
theorem af_up {a b t1 t2:Rat} (h1:a+b*t1<0) (h2:0<a+b*t2) (h:t1<t2):0<b:=by
  rcases lt_or_le 0 b with k|k
  · exact k
  · have := Rat.mul_nonneg (show 0 ≤ -b by grind) (show 0 ≤ t2 - t1 by grind)
    grind
theorem af_dn {a b t1 t2:Rat} (h1:a+b*t1<0) (h2:0<a+b*t2) (h:t2<t1):b<0:=by
  rcases lt_or_le b 0 with k|k
  · exact k
  · have := Rat.mul_nonneg k (show 0 ≤ t1 - t2 by grind)
    grind
theorem mul_le {b s t:Rat} (hb:0≤b) (h:s≤t):b*s≤b*t:=by
  have:=Rat.mul_nonneg hb (show 0≤t - s by grind)
  grind
theorem mul_ge {b s t:Rat} (hb:b≤0) (h:s≤t):b*t≤b*s:=by
  have:=Rat.mul_nonneg (show 0≤ -b by grind) (show 0≤t - s by grind)
  grind
theorem mul_lt {b s t:Rat} (hb:0<b) (h:s<t):b*s<b*t:=by
  have:=Rat.mul_pos hb (show 0<t - s by grind)
  grind
theorem mul_gt {b s t:Rat} (hb:b<0) (h:s<t):b*t<b*s:=by
  have:=Rat.mul_pos (show 0< -b by grind) (show 0<t - s by grind)
  grind
theorem af_two {a b s t:Rat} (h1:a+b*s=0) (h2:a+b*t=0) (h:s≠t):b=0:=by
  have h3:b*(s - t)=0:=by grind
  rcases Rat.mul_eq_zero.1 h3 with k|k
  · exact k
  · exact absurd k (by grind)
theorem ends {p q u v t:Rat} (a:p<t∧t<q∨q<t∧t<p) (b:u<t∧t<v∨v<t∧t<u) (k1:¬(p<u∧u<q∨q<u∧u<p)) (k2:¬(p<v∧v<q∨q<v∧v<p)) (k3:¬(u<p∧p<v∨v<p∧p<u)) (k4:¬(u<q∧q<v∨v<q∧q<u)):p=u∨p=v∧q=u:=by
  rcases a with ⟨a1,a2⟩|⟨a1,a2⟩ <;> rcases b with ⟨b1,b2⟩|⟨b1,b2⟩
  · left;clear k2 k4;grind
  · right; constructor
    · clear k1 k4;grind
    · clear k2 k3;grind
  · right; constructor
    · clear k1 k4;grind
    · clear k2 k3;grind
  · left;clear k2 k4;grind
def nx (n i:Nat):Nat:=if i+1=n then 0 else i+1
def pv (n i:Nat):Nat:=if i=0 then n - 1 else i - 1
theorem nx_c (n i:Nat):i+1=n∧nx n i=0∨i+1≠n∧nx n i=i+1:=by
  unfold nx;by_cases h:i+1=n
  · exact .inl ⟨h,if_pos h⟩
  · exact .inr ⟨h,if_neg h⟩
theorem pv_c (n i:Nat):i=0∧pv n i=n - 1∨i≠0∧pv n i=i - 1:=by
  unfold pv;by_cases h:i=0
  · exact .inl ⟨h,if_pos h⟩
  · exact .inr ⟨h,if_neg h⟩
theorem nx_lt {n i:Nat} (h:i<n):nx n i<n:=by have:=nx_c n i;omega
theorem pv_lt {n i:Nat} (h:i<n):pv n i<n:=by have:=pv_c n i;omega
theorem nx_pv {n i:Nat} (h:i<n):nx n (pv n i)=i:=by have:=nx_c n (pv n i);have:=pv_c n i;omega
structure Pol where
  n:Nat
  X:Nat→Int
  Y:Nat→Int
namespace Pol
variable (c : Pol)
def x (i:Nat):Rat:=(c.X i:Rat)
def y (i:Nat):Rat:=(c.Y i:Rat)
def sl (i:Nat):Rat:=(c.x (nx c.n i) - c.x i) / (c.y (nx c.n i) - c.y i)
def co (i:Nat):Rat:=c.x i - c.y i*c.sl i
def xi (i:Nat) (t:Rat):Rat:=c.co i+c.sl i*t
def G (i j:Nat) (t:Rat):Rat:=(c.co j - c.co i)+(c.sl j - c.sl i)*t
theorem G_eq (i j:Nat) (t:Rat):c.G i j t=c.xi j t - c.xi i t:=by unfold G xi;grind
def cs (i:Nat) (t:Rat):Prop:=c.y i≤t∧t≤c.y (nx c.n i)∨c.y (nx c.n i)≤t∧t≤c.y i
def os (i:Nat) (t:Rat):Prop:=c.y i<t∧t<c.y (nx c.n i)∨c.y (nx c.n i)<t∧t<c.y i
theorem os_cs {c:Pol} {i:Nat} {t:Rat} (h:c.os i t):c.cs i t:=by unfold os at h;unfold cs;grind
def opp (u v:Rat):Prop:=u<0∧0<v∨0<u∧v<0
structure Ok:Prop where
  n3:3≤c.n
  inj:∀i j,i<c.n→j<c.n→c.y i=c.y j→i=j
  tch:∀i w,i<c.n→w<c.n→w≠i→w≠nx c.n i→c.os i (c.y w)→c.x w≠c.xi i (c.y w)
  crx:∀i j,i<c.n→j<c.n→j≠i→j≠nx c.n i→i≠nx c.n j→¬(opp (c.G i j (c.y j)) (c.G i j (c.y (nx c.n j)))∧opp (c.G i j (c.y i)) (c.G i j (c.y (nx c.n i))))
variable {c}
theorem Ok.ne (h:c.Ok) {i:Nat} (hi:i<c.n):c.y (nx c.n i)≠c.y i:=fun k=>by
  have h1:=h.inj _ _ (nx_lt hi) hi k
  have:=nx_c c.n i
  have:=h.n3
  omega
theorem xi_0 (c:Pol) (i:Nat):c.xi i (c.y i)=c.x i:=by unfold xi co;grind
theorem Ok.xi_1 (h:c.Ok) {i:Nat} (hi:i<c.n):c.xi i (c.y (nx c.n i))=c.x (nx c.n i):=by
  have h1:=h.ne hi
  have h2:c.sl i*(c.y (nx c.n i) - c.y i)=c.x (nx c.n i) - c.x i:=by
    unfold sl
    exact Rat.div_mul_cancel (by grind)
  unfold xi co;grind
theorem Ok.shared (h:c.Ok) {i j:Nat} (hi:i<c.n) (hj:j<c.n) (hij:j=nx c.n i∨i=nx c.n j):∃v,c.G i j v=0∧(v=c.y i∨v=c.y (nx c.n i))∧(v=c.y j∨v=c.y (nx c.n j)):=by
  rcases hij with k|k
  · refine ⟨c.y j, ?_, .inr (by rw [k]), .inl rfl⟩
    rw [G_eq,xi_0]
    have:=h.xi_1 hi
    rw [← k] at this;rw [this];grind
  · refine ⟨c.y i, ?_, .inl rfl, .inr (by rw [k])⟩
    rw [G_eq,xi_0]
    have:=h.xi_1 hj
    rw [← k] at this;rw [this];grind
theorem Ok.oc (h:c.Ok) {i j:Nat} (hi:i<c.n) (hj:j<c.n) (hne:j≠i) {t1 t2:Rat} (a1:c.cs i t1) (a2:c.cs i t2) (b1:c.cs j t1) (b2:c.cs j t2) (g1:c.G i j t1<0) (g2:0<c.G i j t2):False:=by
  have ht:t1≠t2:=fun k=>by subst k;grind
  by_cases hij:j=nx c.n i∨i=nx c.n j
  · obtain ⟨v, hv, hvi, hvj⟩ := h.shared hi hj hij
    have h1:=h.ne hi
    have h2:=h.ne hj
    have hv1:v≠t1:=fun k=>by rw [k] at hv;grind
    have hv2:v≠t2:=fun k=>by rw [k] at hv;grind
    unfold cs at a1 a2 b1 b2
    have hs:v<t1∧v<t2∨t1<v∧t2<v:=by grind
    unfold G at g1 g2 hv
    rcases lt_or_le t1 t2 with k|k
    · have hb := af_up g1 g2 k
      rcases hs with ⟨s1,s2⟩|⟨s1,s2⟩
      · have:=mul_lt hb s1;grind
      · have:=mul_lt hb s2;grind
    · have hb := af_dn g1 g2 (by grind)
      rcases hs with ⟨s1,s2⟩|⟨s1,s2⟩
      · have:=mul_gt hb s2;grind
      · have:=mul_gt hb s1;grind
  · refine h.crx i j hi hj hne (fun k => hij (.inl k)) (fun k => hij (.inr k)) ?_
    unfold cs at a1 a2 b1 b2
    unfold G at g1 g2
    unfold G opp
    rcases lt_or_le t1 t2 with k|k
    · have hb := af_up g1 g2 k
      constructor
      · rcases b1 with ⟨p, q⟩ | ⟨p, q⟩
        · left;have:=mul_le (Rat.le_of_lt hb) p;have:=mul_le (Rat.le_of_lt hb) (show t2≤c.y (nx c.n j) by grind);grind
        · right;have:=mul_le (Rat.le_of_lt hb) p;have:=mul_le (Rat.le_of_lt hb) (show t2≤c.y j by grind);grind
      · rcases a1 with ⟨p, q⟩ | ⟨p, q⟩
        · left;have:=mul_le (Rat.le_of_lt hb) p;have:=mul_le (Rat.le_of_lt hb) (show t2≤c.y (nx c.n i) by grind);grind
        · right;have:=mul_le (Rat.le_of_lt hb) p;have:=mul_le (Rat.le_of_lt hb) (show t2≤c.y i by grind);grind
    · have hb := af_dn g1 g2 (by grind)
      constructor
      · rcases b2 with ⟨p, q⟩ | ⟨p, q⟩
        · right;have:=mul_ge (Rat.le_of_lt hb) p;have:=mul_ge (Rat.le_of_lt hb) (show t1≤c.y (nx c.n j) by grind);grind
        · left;have:=mul_ge (Rat.le_of_lt hb) p;have:=mul_ge (Rat.le_of_lt hb) (show t1≤c.y j by grind);grind
      · rcases a2 with ⟨p, q⟩ | ⟨p, q⟩
        · right;have:=mul_ge (Rat.le_of_lt hb) p;have:=mul_ge (Rat.le_of_lt hb) (show t1≤c.y (nx c.n i) by grind);grind
        · left;have:=mul_ge (Rat.le_of_lt hb) p;have:=mul_ge (Rat.le_of_lt hb) (show t1≤c.y i by grind);grind
theorem Ok.nz (h:c.Ok) {i j:Nat} (hi:i<c.n) (hj:j<c.n) (hne:j≠i) {t:Rat} (a:c.os i t) (b:c.os j t):c.G i j t≠0:=fun g=>by
  have hii:=h.ne hi
  have hjj:=h.ne hj
  by_cases hb:c.sl j - c.sl i=0
  · have hall:∀s,c.xi j s=c.xi i s:=fun s=>by
      have:c.G i j s=0:=by unfold G at g ⊢;rw [hb] at g ⊢;grind
      rw [G_eq] at this;grind
    have tI:∀w,w<c.n→c.xi j (c.y w)=c.x w→¬c.os i (c.y w):=fun w hw e k=>by
      refine h.tch i w hi hw (fun q=> ?_) (fun q=> ?_) k (by rw [← hall,e])
      · subst q;unfold os at k;grind
      · subst q;unfold os at k;grind
    have tJ:∀w,w<c.n→c.xi i (c.y w)=c.x w→¬c.os j (c.y w):=fun w hw e k=>by
      refine h.tch j w hj hw (fun q=> ?_) (fun q=> ?_) k (by rw [hall,e])
      · subst q;unfold os at k;grind
      · subst q;unfold os at k;grind
    have k1:=tI _ hj (xi_0 c j)
    have k2:=tI _ (nx_lt hj) (h.xi_1 hj)
    have k3:=tJ _ hi (xi_0 c i)
    have k4:=tJ _ (nx_lt hi) (h.xi_1 hi)
    unfold os at a b k1 k2 k3 k4
    have hs:=ends a b k1 k2 k3 k4
    rcases hs with q|⟨q1,q2⟩
    · exact hne (h.inj _ _ hj hi q.symm)
    · have e1 := h.inj _ _ hi (nx_lt hj) q1
      have e2:=h.inj _ _ (nx_lt hi) hj q2
      have:=nx_c c.n i
      have:=nx_c c.n j
      have:=h.n3
      omega
  · by_cases hij : j = nx c.n i ∨ i = nx c.n j
    · obtain ⟨v, hv, hvi, hvj⟩ := h.shared hi hj hij
      refine hb (af_two hv g ?_)
      unfold os at a
      grind
    · refine h.crx i j hi hj hne (fun k => hij (.inl k)) (fun k => hij (.inr k)) ?_
      unfold os at a b
      unfold G at g
      unfold G opp
      rcases lt_or_le 0 (c.sl j - c.sl i) with k|k
      · constructor
        · rcases b with ⟨p, q⟩ | ⟨p, q⟩
          · left;have:=mul_lt k p;have:=mul_lt k q;grind
          · right;have:=mul_lt k p;have:=mul_lt k q;grind
        · rcases a with ⟨p, q⟩ | ⟨p, q⟩
          · left;have:=mul_lt k p;have:=mul_lt k q;grind
          · right;have:=mul_lt k p;have:=mul_lt k q;grind
      · have k2 : c.sl j - c.sl i < 0 := by grind
        constructor
        · rcases b with ⟨p, q⟩ | ⟨p, q⟩
          · right;have:=mul_gt k2 p;have:=mul_gt k2 q;grind
          · left;have:=mul_gt k2 p;have:=mul_gt k2 q;grind
        · rcases a with ⟨p, q⟩ | ⟨p, q⟩
          · right;have:=mul_gt k2 p;have:=mul_gt k2 q;grind
          · left;have:=mul_gt k2 p;have:=mul_gt k2 q;grind
theorem Ok.cst (h:c.Ok) {i j:Nat} (hi:i<c.n) (hj:j<c.n) (hne:j≠i) {t1 t2:Rat} (a1:c.cs i t1) (a2:c.cs i t2) (b1:c.cs j t1) (b2:c.cs j t2) (g1:c.xi j t1≠c.xi i t1) (g2:c.xi j t2≠c.xi i t2):c.xi j t1<c.xi i t1↔c.xi j t2<c.xi i t2:=by
  have k1:=h.oc hi hj hne a1 a2 b1 b2
  have k2:=h.oc hi hj hne a2 a1 b2 b1
  rw [G_eq,G_eq] at k1 k2
  constructor
  · intro k
    rcases lt_or_le (c.xi j t2) (c.xi i t2) with q|q
    · exact q
    · exact (k1 (by grind) (by grind)).elim
  · intro k
    rcases lt_or_le (c.xi j t1) (c.xi i t1) with q|q
    · exact q
    · exact (k2 (by grind) (by grind)).elim
variable (c)
def span (i:Nat) (k:Int):Prop:=c.Y i≤k∧k<c.Y (nx c.n i)∨c.Y (nx c.n i)≤k∧k<c.Y i
instance (i:Nat) (k:Int):Decidable (c.span i k):=inferInstanceAs (Decidable (_∨_))
def hf (k:Int):Rat:=(k:Rat)+1 / 2
variable {c}
theorem cle {a b:Int} (h:a≤b):(a:Rat)≤(b:Rat):=Rat.intCast_le_intCast.2 h
theorem clt {a b:Int} (h:a<b):(a:Rat)+1≤(b:Rat):=by
  have:=Rat.intCast_le_intCast.2 (show a+1≤b by omega)
  rw [Rat.intCast_add] at this
  exact this
theorem span_os {i:Nat} {k:Int} (h:c.span i k):c.os i (hf k):=by
  unfold span at h
  unfold os hf y
  rcases h with ⟨p,q⟩|⟨p,q⟩
  · have:=cle p;have:=clt q;left;grind
  · have:=cle p;have:=clt q;right;grind
theorem span_c0 {i:Nat} {k:Int} (h:c.span i k):c.cs i (k:Rat):=by
  unfold span at h
  unfold cs y
  rcases h with ⟨p,q⟩|⟨p,q⟩
  · have:=cle p;have:=clt q;left;grind
  · have:=cle p;have:=clt q;right;grind
theorem span_c1 {i:Nat} {k:Int} (h:c.span i k):c.cs i ((k+1:Int):Rat):=by
  unfold span at h
  unfold cs y
  rcases h with ⟨p,q⟩|⟨p,q⟩
  · have:=cle p;have:=cle (show k+1≤_ by exact q);have:=clt (show k<k+1 by omega);left;grind
  · have:=cle p;have:=cle (show k+1≤_ by exact q);have:=clt (show k<k+1 by omega);right;grind
end Pol
end Go.Proofs.YtjcpbhlijoigfaaGreat.Sw
namespace Go.Proofs.YtjcpbhlijoigfaaGreat.Sw
set_option linter.unusedVariables false
def pr (f:Nat→Int):Nat→Int
  |0=>1
  |m+1=>pr f m*f m
theorem pr_congr {f g:Nat→Int}:∀{m:Nat},(∀j,j<m→f j=g j)→pr f m=pr g m
  |0,_=>rfl
  |m+1,h=>by unfold pr;rw [pr_congr fun j hj=>h j (by omega),h m (by omega)]
theorem pr_one {f g:Nat→Int} {p:Nat}:∀{m:Nat},p<m→(∀j,j<m→j≠p→f j=g j)→pr f m*g p=pr g m*f p
  |0,hp,_=>by omega
  |m+1,hp,h=>by
    unfold pr
    by_cases e:p=m
    · subst e
      rw [pr_congr (f:=f) (g:=g) fun j hj=>h j (by omega) (by omega)]
      grind
    · have ih := pr_one (f := f) (g := g) (p := p) (m := m) (by omega) fun j hj hn => h j (by omega) hn
      rw [h m (by omega) (fun k=>e k.symm)]
      grind
theorem pr_two {f g:Nat→Int} {p q m:Nat} (hp:p<m) (hq:q<m) (hn:p≠q) (h:∀j,j<m→j≠p→j≠q→f j=g j):pr f m*(g p*g q)=pr g m*(f p*f q):=by
  have h1:=pr_one (f:=f) (g:=fun j=>if j=p then g p else f j) hp fun j hj k=>by rw [if_neg k]
  have h2:=pr_one (f:=fun j=>if j=p then g p else f j) (g:=g) hq fun j hj k=>by
    by_cases e:j=p
    · rw [if_pos e,e]
    · rw [if_neg e];exact h j hj e k
  rw [if_pos rfl] at h1
  rw [if_neg (fun k=>hn k.symm)] at h2
  generalize pr (fun j=>if j=p then g p else f j) m=z at h1 h2
  grind
def pm (z:Int):Prop:=z=1∨z= -1
theorem pm_mul {a b:Int} (h1:pm a) (h2:pm b):pm (a*b):=by
  unfold pm at *;rcases h1 with rfl|rfl <;> rcases h2 with rfl|rfl <;> decide
theorem pr_eq {f g:Nat→Int} {p q m:Nat} (hp:p<m) (hq:q<m) (hn:p≠q) (h:∀j,j<m→j≠p→j≠q→f j=g j) (e:f p*f q=g p*g q) (u:pm (g p*g q)):pr f m=pr g m:=by
  have:=pr_two hp hq hn h
  rw [e] at this
  rcases u with u|u <;> rw [u] at this <;> omega
theorem pr_neg {f g:Nat→Int} {p q m:Nat} (hp:p<m) (hq:q<m) (hn:p≠q) (h:∀j,j<m→j≠p→j≠q→f j=g j) (e:f p*f q= -(g p*g q)) (u:pm (g p*g q)):pr f m= - pr g m:=by
  have:=pr_two hp hq hn h
  rw [e] at this
  rcases u with u|u <;> rw [u] at this <;> omega
theorem pr_pm {f:Nat→Int}:∀{m:Nat},(∀j,j<m→pm (f j))→pm (pr f m)
  |0,_=> .inl rfl
  |m+1,h=>pm_mul (pr_pm fun j hj=>h j (by omega)) (h m (by omega))
def fl (b:Prop) [Decidable b]:Int:=if b then -1 else 1
theorem fl_pm (b:Prop) [Decidable b]:pm (fl b):=by unfold fl pm;split;exact .inr rfl;exact .inl rfl
theorem fl_yes {b:Prop} [Decidable b] (h:b):fl b= -1:=if_pos h
theorem fl_no {b:Prop} [Decidable b] (h:¬b):fl b=1:=if_neg h
theorem fl_iff {b d:Prop} [Decidable b] [Decidable d] (h:b↔d):fl b=fl d:=by
  by_cases k:b
  · rw [fl_yes k,fl_yes (h.1 k)]
  · rw [fl_no k,fl_no (fun q=>k (h.2 q))]
namespace Pol
variable {c : Pol}
variable (c) in
def lf (i:Nat) (k:Int) (j:Nat):Prop:=c.span j k∧c.xi j (hf k)<c.xi i (hf k)
instance (i:Nat) (k:Int) (j:Nat):Decidable (c.lf i k j):=inferInstanceAs (Decidable (_∧_))
variable (c) in
def tau (i:Nat) (k:Int):Int:=pr (fun j=>fl (c.lf i k j)) c.n
theorem tau_pm (i:Nat) (k:Int):pm (c.tau i k):=pr_pm fun j _=>fl_pm _
theorem lf_self (i:Nat) (k:Int):¬c.lf i k i:=fun h=>by have:=h.2;grind
variable (c) in
def inc (e w:Nat):Prop:=e=w∨nx c.n e=w
theorem Ok.yne (h:c.Ok) {i w:Nat} (hi:i<c.n) (hw:w<c.n) (hn:i≠w):c.Y i≠c.Y w:=fun k=>hn (h.inj i w hi hw (by unfold y;rw [k]))
theorem Ok.xw (h:c.Ok) {e w:Nat} (he:e<c.n) (k:c.inc e w):c.xi e (c.y w)=c.x w:=by
  rcases k with rfl|rfl
  · exact xi_0 c e
  · exact h.xi_1 he
theorem Ok.pass (h:c.Ok) {j w:Nat} (hj:j<c.n) (hw:w<c.n) (hn:¬c.inc j w) {k:Int} (hk:k=c.Y w∨k+1=c.Y w) (hs:c.span j k):c.os j (c.y w)∧c.xi j (c.y w)≠c.x w∧c.span j (c.Y w):=by
  have h1:=h.yne hj hw (fun e=>hn (.inl e))
  have h2:=h.yne (nx_lt hj) hw (fun e=>hn (.inr e))
  have hs2:c.span j (c.Y w):=by unfold span at hs ⊢;omega
  have h3:c.os j (c.y w):=by
    unfold span at hs2;unfold os y
    rcases hs2 with ⟨p,q⟩|⟨p,q⟩
    · left;exact ⟨Rat.intCast_lt_intCast.2 (by omega),Rat.intCast_lt_intCast.2 q⟩
    · right;exact ⟨Rat.intCast_lt_intCast.2 (by omega),Rat.intCast_lt_intCast.2 q⟩
  exact ⟨h3,fun e=>h.tch j w hj hw (fun e=>hn (.inl e.symm)) (fun e=>hn (.inr e.symm)) h3 e.symm,hs2⟩
theorem cs_at {j w:Nat} {k:Int} (hk:k=c.Y w∨k+1=c.Y w) (hs:c.span j k):c.cs j (c.y w):=by
  unfold y
  rcases hk with e|e
  · rw [← e];exact span_c0 hs
  · rw [← e];exact span_c1 hs
theorem Ok.lfA (h:c.Ok) {e j w:Nat} (he:e<c.n) (hj:j<c.n) (hw:w<c.n) (ke:c.inc e w) (kj:¬c.inc j w) {k:Int} (hk:k=c.Y w∨k+1=c.Y w) (hs:c.span e k):c.lf e k j↔c.span j (c.Y w)∧c.xi j (c.y w)<c.x w:=by
  have hne:j≠e:=fun q=>by subst q;exact kj ke
  have h1:=h.yne hj hw (fun q=>kj (.inl q))
  have h2:=h.yne (nx_lt hj) hw (fun q=>kj (.inr q))
  have hsp:c.span j k↔c.span j (c.Y w):=by unfold span;omega
  unfold lf
  rw [hsp]
  refine and_congr_right fun q=> ?_
  have q':=hsp.2 q
  obtain ⟨p1,p2,p3⟩:=h.pass hj hw kj hk q'
  have hx:=h.xw he ke
  rw [h.cst he hj hne (os_cs (span_os hs)) (cs_at hk hs) (os_cs (span_os q')) (os_cs p1) (fun z=>h.nz he hj hne (span_os hs) (span_os q') (by rw [G_eq];grind)) (by rw [hx];exact p2),hx]
theorem Ok.lfB (h:c.Ok) {i e w:Nat} (hi:i<c.n) (he:e<c.n) (hw:w<c.n) (ke:c.inc e w) (ki:¬c.inc i w) {k:Int} (hk:k=c.Y w∨k+1=c.Y w) (hs:c.span i k):c.lf i k e↔c.span e k∧c.x w<c.xi i (c.y w):=by
  have hne:e≠i:=fun q=>by subst q;exact ki ke
  unfold lf
  refine and_congr_right fun q=> ?_
  obtain ⟨p1,p2,p3⟩:=h.pass hi hw ki hk hs
  have hx:=h.xw he ke
  rw [h.cst hi he hne (os_cs (span_os hs)) (os_cs p1) (os_cs (span_os q)) (cs_at hk q) (fun z=>h.nz hi he hne (span_os hs) (span_os q) (by rw [G_eq];grind)) (by rw [hx];exact fun z=>p2 z.symm),hx]
theorem Ok.same (h:c.Ok) {i j:Nat} (hi:i<c.n) (hj:j<c.n) {k:Int} (h1:c.span i k) (h2:c.span i (k+1)) (y1:c.Y j≠k+1) (y2:c.Y (nx c.n j)≠k+1):c.lf i k j↔c.lf i (k+1) j:=by
  have hsp:c.span j k↔c.span j (k+1):=by unfold span;omega
  by_cases e:j=i
  · subst e;exact ⟨fun z=>(lf_self _ _ z).elim,fun z=>(lf_self _ _ z).elim⟩
  unfold lf
  rw [hsp]
  refine and_congr_right fun q=> ?_
  have q':=hsp.2 q
  exact h.cst hi hj e (os_cs (span_os h1)) (os_cs (span_os h2)) (os_cs (span_os q')) (os_cs (span_os q)) (fun z=>h.nz hi hj e (span_os h1) (span_os q') (by rw [G_eq];grind)) (fun z=>h.nz hi hj e (span_os h2) (span_os q) (by rw [G_eq];grind))
theorem Ok.step (h:c.Ok) {i:Nat} (hi:i<c.n) {k:Int} (h1:c.span i k) (h2:c.span i (k+1)):c.tau i k=c.tau i (k+1):=by
  unfold tau
  by_cases ex:∃w,w<c.n∧c.Y w=k+1
  · obtain ⟨w, hw, hy⟩ := ex
    have hp:=pv_lt hw
    have hnp:=nx_pv hw
    have h3:=h.n3
    have hpw:pv c.n w≠w:=by have:=pv_c c.n w;omega
    have ki:¬c.inc i w:=by
      rintro (q|q)
      · subst q;unfold span at h1 h2;omega
      · rw [← q] at hy;unfold span at h1 h2;omega
    have hB:∀e,e<c.n→c.inc e w→fl (c.lf i k e)*fl (c.lf i (k+1) e)=fl (c.x w<c.xi i (c.y w)):=fun e he ke=>by
      rw [fl_iff (h.lfB hi he hw ke ki (.inr hy.symm) h1),fl_iff (h.lfB hi he hw ke ki (.inl hy.symm) h2)]
      have hsp:c.span e k↔¬c.span e (k+1):=by
        have hne:=h.ne he
        have hne2:c.Y (nx c.n e)≠c.Y e:=fun q=>hne (by unfold y;rw [q])
        rcases ke with q|q
        · subst q;unfold span;omega
        · rw [← q] at hy;unfold span;omega
      by_cases b:c.x w<c.xi i (c.y w)
      · rw [fl_yes b]
        by_cases s:c.span e (k+1)
        · rw [fl_no (fun z=>hsp.1 z.1 s),fl_yes ⟨s,b⟩];rfl
        · rw [fl_yes ⟨hsp.2 s,b⟩,fl_no (fun z=>s z.1)];rfl
      · rw [fl_no b,fl_no (fun z=>b z.2),fl_no (fun z=>b z.2)];rfl
    refine pr_eq hp hw hpw (fun j hj j1 j2=> ?_) ?_ (pm_mul (fl_pm _) (fl_pm _))
    · refine fl_iff (h.same hi hj h1 h2 (fun q => ?_) (fun q => ?_))
      · exact h.yne hj hw j2 (by omega)
      · refine h.yne (nx_lt hj) hw (fun z => j1 ?_) (by omega)
        have:=nx_c c.n j;have:=pv_c c.n w;omega
    · have e1 := hB _ hp (.inr hnp)
      have e2:=hB _ hw (.inl rfl)
      have u1:=fl_pm (c.lf i k (pv c.n w))
      have u2:=fl_pm (c.lf i k w)
      have u3:=fl_pm (c.lf i (k+1) (pv c.n w))
      have u4:=fl_pm (c.lf i (k+1) w)
      have u5:=fl_pm (c.x w<c.xi i (c.y w))
      generalize fl (c.lf i k (pv c.n w))=a1 at*
      generalize fl (c.lf i k w)=a2 at*
      generalize fl (c.lf i (k+1) (pv c.n w))=a3 at*
      generalize fl (c.lf i (k+1) w)=a4 at*
      generalize fl (c.x w<c.xi i (c.y w))=a5 at*
      unfold pm at u1 u2 u3 u4 u5
      rcases u1 with rfl|rfl <;> rcases u2 with rfl|rfl <;> rcases u3 with rfl|rfl <;> rcases u4 with rfl|rfl <;> omega
  · refine pr_congr fun j hj=>fl_iff (h.same hi hj h1 h2 (fun q=>ex ⟨j,hj,q⟩) (fun q=>ex ⟨_,nx_lt hj,q⟩))
end Pol
end Go.Proofs.YtjcpbhlijoigfaaGreat.Sw
namespace Go.Proofs.YtjcpbhlijoigfaaGreat.Sw
set_option linter.unusedVariables false
namespace Pol
variable {c : Pol}
variable (c) in
def dir (i:Nat):Int:=if c.Y i<c.Y (nx c.n i) then 1 else -1
theorem dir_pm (i:Nat):pm (c.dir i):=by unfold dir pm;split;exact .inl rfl;exact .inr rfl
theorem dir_up {i:Nat} (h:c.Y i<c.Y (nx c.n i)):c.dir i=1:=if_pos h
theorem dir_dn {i:Nat} (h:¬c.Y i<c.Y (nx c.n i)):c.dir i= -1:=if_neg h
def kb (u o:Int):Int:=if o<u then u - 1 else u
theorem kb_c (u o:Int):o<u∧kb u o=u - 1∨u≤o∧kb u o=u:=by
  unfold kb;by_cases h:o<u
  · exact .inl ⟨h,if_pos h⟩
  · exact .inr ⟨by omega,if_neg h⟩
theorem Ok.vert (h:c.Ok) {w:Nat} (hw:w<c.n):c.dir (pv c.n w)*c.tau (pv c.n w) (kb (c.Y w) (c.Y (pv c.n w)))=c.dir w*c.tau w (kb (c.Y w) (c.Y (nx c.n w))):=by
  have h3:=h.n3
  have hp:=pv_lt hw
  have hq:=nx_lt hw
  have hnp:=nx_pv hw
  have pc:=pv_c c.n w
  have nc:=nx_c c.n w
  have hpw:pv c.n w≠w:=by omega
  have y1:=h.yne hp hw hpw
  have y2:=h.yne hq hw (by omega)
  have ip:c.inc (pv c.n w) w:= .inr hnp
  have iq:c.inc w w:= .inl rfl
  have k1:=kb_c (c.Y w) (c.Y (pv c.n w))
  have k2:=kb_c (c.Y w) (c.Y (nx c.n w))
  have s1:c.span (pv c.n w) (kb (c.Y w) (c.Y (pv c.n w))):=by unfold span;rw [hnp];omega
  have s2:c.span w (kb (c.Y w) (c.Y (nx c.n w))):=by unfold span;omega
  have e1:kb (c.Y w) (c.Y (pv c.n w))=c.Y w∨kb (c.Y w) (c.Y (pv c.n w))+1=c.Y w:=by omega
  have e2:kb (c.Y w) (c.Y (nx c.n w))=c.Y w∨kb (c.Y w) (c.Y (nx c.n w))+1=c.Y w:=by omega
  have hoth:∀j,j<c.n→j≠pv c.n w→j≠w→fl (c.lf (pv c.n w) (kb (c.Y w) (c.Y (pv c.n w))) j)=fl (c.lf w (kb (c.Y w) (c.Y (nx c.n w))) j):=fun j hj j1 j2=>by
    have kj:¬c.inc j w:=by
      rintro (q|q)
      · exact j2 q
      · exact j1 (by have:=nx_c c.n j;omega)
    rw [fl_iff (h.lfA hp hj hw ip kj e1 s1),fl_iff (h.lfA hw hj hw iq kj e2 s2)]
  have dp:c.dir (pv c.n w)=if c.Y (pv c.n w)<c.Y w then 1 else -1:=by unfold dir;rw [hnp]
  by_cases same:kb (c.Y w) (c.Y (pv c.n w))=kb (c.Y w) (c.Y (nx c.n w))
  · have hd:c.dir (pv c.n w)= - c.dir w:=by
      rw [dp];unfold dir
      by_cases z:c.Y (pv c.n w)<c.Y w
      · rw [if_pos z,if_neg (by omega)];rfl
      · rw [if_neg z,if_pos (by omega)]
    rw [← same] at s2 hoth ⊢
    generalize kb (c.Y w) (c.Y (pv c.n w))=k at*
    have hnz:=h.nz hp hw (fun z=>hpw z.symm) (span_os s1) (span_os s2)
    rw [G_eq] at hnz
    have ht:c.tau (pv c.n w) k= - c.tau w k:=by
      refine pr_neg hp hw hpw hoth ?_ (pm_mul (fl_pm _) (fl_pm _))
      rw [fl_no (lf_self _ _),fl_no (lf_self _ _)]
      by_cases z:c.xi w (hf k)<c.xi (pv c.n w) (hf k)
      · rw [fl_yes (b:=c.lf (pv c.n w) k w) ⟨s2,z⟩,fl_no (b:=c.lf w k (pv c.n w)) (fun q=>by have:=q.2;grind)];rfl
      · rw [fl_no (b:=c.lf (pv c.n w) k w) (fun q=>z q.2),fl_yes (b:=c.lf w k (pv c.n w)) ⟨s1,by grind⟩];rfl
    rw [hd,ht];grind
  · have hd:c.dir (pv c.n w)=c.dir w:=by
      rw [dp];unfold dir
      by_cases z:c.Y (pv c.n w)<c.Y w
      · rw [if_pos z,if_pos (by omega)]
      · rw [if_neg z,if_neg (by omega)]
    have ht:c.tau (pv c.n w) (kb (c.Y w) (c.Y (pv c.n w)))=c.tau w (kb (c.Y w) (c.Y (nx c.n w))):=by
      refine pr_eq hp hw hpw hoth ?_ (pm_mul (fl_pm _) (fl_pm _))
      rw [fl_no (lf_self _ _),fl_no (lf_self _ _),fl_no (fun q=> ?_),fl_no (fun q=> ?_)]
      · have:=q.1;unfold span at this;rw [hnp] at this;omega
      · have:=q.1;unfold span at this;omega
    rw [hd,ht]
variable (c) in
def lo (i:Nat):Int:=min (c.Y i) (c.Y (nx c.n i))
theorem span_lo {i:Nat} {k:Int} (h:c.span i k):c.lo i≤k∧∀k',c.lo i≤k'→k'≤k→c.span i k':=by
  unfold span lo at*
  exact ⟨by omega,fun k' _ _=>by omega⟩
theorem Ok.tlo (h:c.Ok) {i:Nat} (hi:i<c.n):∀m:Nat,c.span i (c.lo i+m)→c.tau i (c.lo i+m)=c.tau i (c.lo i)
  |0,_=>by rw [show c.lo i+((0:Nat):Int)=c.lo i by omega]
  |m+1,hs=>by
    have h1:=(span_lo hs).2 (c.lo i+(m:Nat)) (by omega) (by omega)
    have e:c.lo i+((m+1:Nat):Int)=c.lo i+(m:Nat)+1:=by omega
    rw [e] at hs ⊢
    rw [← h.step hi h1 hs]
    exact h.tlo hi m h1
theorem Ok.tk (h:c.Ok) {i:Nat} (hi:i<c.n) {k:Int} (hs:c.span i k):c.tau i k=c.tau i (c.lo i):=by
  have h1:=(span_lo hs).1
  have e:k=c.lo i+((k - c.lo i).toNat:Nat):=by omega
  rw [e] at hs ⊢
  exact h.tlo hi _ hs
theorem Ok.sig (h:c.Ok):∀i,i<c.n→c.dir i*c.tau i (c.lo i)=c.dir 0*c.tau 0 (c.lo 0)
  |0,_=>rfl
  |i+1,hi=>by
    rw [← h.sig i (by omega)]
    have pc:=pv_c c.n (i+1)
    have e:pv c.n (i+1)=i:=by omega
    have hv:=h.vert hi
    have hnp:=nx_pv hi
    rw [e] at hv hnp
    have h3:=h.n3
    have y1:=h.yne (show i<c.n by omega) hi (by omega)
    have nc:=nx_c c.n (i+1)
    have y2:=h.yne (nx_lt hi) hi (by omega)
    have k1:=kb_c (c.Y (i+1)) (c.Y i)
    have k2:=kb_c (c.Y (i+1)) (c.Y (nx c.n (i+1)))
    rw [← h.tk (show i<c.n by omega) (k:=kb (c.Y (i+1)) (c.Y i)) (by unfold span;rw [hnp];omega),←h.tk hi (k:=kb (c.Y (i+1)) (c.Y (nx c.n (i+1)))) (by unfold span;omega)]
    exact hv.symm
theorem Ok.alt (h:c.Ok):∃s:Int,pm s∧∀i k,i<c.n→c.span i k→c.dir i=s*c.tau i k:=by
  refine ⟨c.dir 0*c.tau 0 (c.lo 0),pm_mul (dir_pm _) (tau_pm _ _),fun i k hi hs=> ?_⟩
  rw [← h.sig i hi,h.tk hi hs]
  rcases tau_pm (c:=c) i (c.lo i) with e|e <;> rw [e] <;> omega
end Pol
section
variable (x : Nat → Rat)
def rk (L:List Nat) (j:Nat):Int:=(L.map fun i=>if x i<x j then (-1:Int) else 1).foldr (· * ·) 1
theorem rk_cons (a:Nat) (L:List Nat) (j:Nat):rk x (a :: L) j=(if x a<x j then -1 else 1)*rk x L j:=rfl
def W (R:List Nat) (U:Nat→Bool):List Nat→Int
  |[]=>0
  |a :: L=>(if U a then rk x R a else 0)+W R U L
def T (R:List Nat):List Nat→Rat
  |[]=>0
  |a :: L=>(rk x R a:Rat)*x a+T R L
def Srt (L:List Nat):Prop:=L.Pairwise fun a b=>x a<x b
variable {x}
theorem rk_head {a:Nat} {L:List Nat} (h:Srt x (a :: L)):rk x (a :: L) a=1:=by
  have h1:∀M:List Nat,(∀b∈M,¬x b<x a)→rk x M a=1:=fun M=>by
    induction M with
    |nil=>intro _;rfl
    |cons b M ih=>intro k;rw [rk_cons,if_neg (k b (List.mem_cons_self ..)),ih fun d hd=>k d (List.mem_cons_of_mem _ hd)];rfl
  refine h1 _ fun b hb=> ?_
  rcases List.mem_cons.1 hb with rfl|hb
  · grind
  · have:=(List.pairwise_cons.1 h).1 b hb;grind
theorem W_tail {a:Nat} {L:List Nat} {U:Nat→Bool}:∀{M:List Nat},(∀b∈M,x a<x b)→W x (a :: L) U M= - W x L U M
  |[],_=>rfl
  |b :: M,h=>by
    unfold W
    rw [W_tail (fun d hd=>h d (List.mem_cons_of_mem _ hd)),rk_cons,if_pos (h b (List.mem_cons_self ..))]
    split <;> omega
theorem T_tail {a:Nat} {L:List Nat}:∀{M:List Nat},(∀b∈M,x a<x b)→T x (a :: L) M= - T x L M
  |[],_=>by unfold T;grind
  |b :: M,h=>by
    unfold T
    rw [T_tail (fun d hd=>h d (List.mem_cons_of_mem _ hd)),rk_cons,if_pos (h b (List.mem_cons_self ..)),Rat.intCast_mul]
    grind
theorem W_cons {a:Nat} {L:List Nat} {U:Nat→Bool} (h:Srt x (a :: L)):W x (a :: L) U (a :: L)=(if U a then 1 else 0) - W x L U L:=by
  show (if U a then rk x (a :: L) a else 0)+W x (a :: L) U L=_
  rw [rk_head h,W_tail (List.pairwise_cons.1 h).1];split <;> omega
theorem T_cons {a:Nat} {L:List Nat} (h:Srt x (a :: L)):T x (a :: L) (a :: L)=x a - T x L L:=by
  show (rk x (a :: L) a:Rat)*x a+T x (a :: L) L=_
  rw [rk_head h,T_tail (List.pairwise_cons.1 h).1];grind
theorem W_all {U:Nat→Bool}:∀{L:List Nat},Srt x L→(∀a∈L,U a=true)→W x L U L=(L.length:Int)%2
  |[],_,_=>rfl
  |a :: L,h,u=>by
    have ih:=W_all (List.pairwise_cons.1 h).2 fun b hb=>u b (List.mem_cons_of_mem _ hb)
    rw [W_cons h,ih,if_pos (u a (List.mem_cons_self ..)),List.length_cons];omega
theorem W_up {U:Nat→Bool}:∀{L:List Nat},Srt x L→(∀a∈L,∀b∈L,x a<x b→U a=true→U b=true)→W x L U L=0∨W x L U L=if L.length%2=1 then 1 else -1
  |[],_,_=> .inl rfl
  |a :: L,h,u=>by
    have hp:=List.pairwise_cons.1 h
    by_cases k:U a=true
    · rw [W_all h fun b hb => ?_]
      · split <;> omega
      · rcases List.mem_cons.1 hb with rfl | hb
        · exact k
        · exact u a (List.mem_cons_self ..) b (List.mem_cons_of_mem _ hb) (hp.1 b hb) k
    · have ih := W_up hp.2 fun b hb d hd => u b (List.mem_cons_of_mem _ hb) d (List.mem_cons_of_mem _ hd)
      rw [W_cons h,if_neg k,List.length_cons]
      rcases ih with e|e
      · left;omega
      · right
        rw [e]
        by_cases z:L.length%2=1
        · rw [if_pos z,if_neg (by omega)];rfl
        · rw [if_neg z,if_pos (by omega)];rfl
theorem T_sg:∀{L:List Nat},Srt x L→(L.length%2=0→T x L L≤0∧(L≠[]→T x L L<0))∧(L.length%2=1→∀a∈L.head?,x a≤T x L L)
  |[],_=>⟨fun _=>⟨by unfold T;grind,fun k=>absurd rfl k⟩,fun k=>by cases k⟩
  |a :: L,h=>by
    have hp:=List.pairwise_cons.1 h
    obtain ⟨i1,i2⟩:=T_sg hp.2
    rw [T_cons h,List.length_cons]
    refine ⟨fun k=> ?_,fun k b hb=> ?_⟩
    · have k2 : L.length % 2 = 1 := by omega
      cases hL:L with
      |nil=>rw [hL] at k2;cases k2
      |cons b M=>
        have h1:=i2 k2 b (by rw [hL];rfl)
        have h2:=hp.1 b (by rw [hL];exact List.mem_cons_self ..)
        rw [hL] at h1
        exact ⟨by grind,fun _=>by grind⟩
    · have h1 := (i1 (by omega)).1
      have:b=a:=by simpa using hb.symm
      subst this
      grind
end
end Go.Proofs.YtjcpbhlijoigfaaGreat.Sw
namespace Go.Proofs.YtjcpbhlijoigfaaGreat.Sw
set_option linter.unusedVariables false
section
variable {x : Nat → Rat}
theorem rk_app (A B:List Nat) (j:Nat):rk x (A++B) j=rk x A j*rk x B j:=by
  induction A with
  |nil=>show _=1*_;rw [Int.one_mul];rfl
  |cons a A ih=>rw [List.cons_append,rk_cons,rk_cons,ih,Int.mul_assoc]
theorem rk_perm {A B:List Nat} (h:A.Perm B) (j:Nat):rk x A j=rk x B j:=by
  induction h with
  |nil=>rfl
  |cons a _ ih=>rw [rk_cons,rk_cons,ih]
  |swap a b l=>rw [rk_cons,rk_cons,rk_cons,rk_cons];grind
  |trans _ _ h1 h2=>rw [h1,h2]
theorem Wc (R:List Nat) (U:Nat→Bool) (a:Nat) (A:List Nat):W x R U (a :: A)=(if U a then rk x R a else 0)+W x R U A:=rfl
theorem Tc (R:List Nat) (a:Nat) (A:List Nat):T x R (a :: A)=(rk x R a:Rat)*x a+T x R A:=rfl
theorem W_app (R:List Nat) (U:Nat→Bool) (A B:List Nat):W x R U (A++B)=W x R U A+W x R U B:=by
  induction A with
  |nil=>show _=0+_;rw [Int.zero_add];rfl
  |cons a A ih=>rw [List.cons_append,Wc,Wc,ih,Int.add_assoc]
theorem W_perm {R:List Nat} {U:Nat→Bool} {A B:List Nat} (h:A.Perm B):W x R U A=W x R U B:=by
  induction h with
  |nil=>rfl
  |cons a _ ih=>rw [Wc,Wc,ih]
  |swap a b l=>rw [Wc,Wc,Wc,Wc];omega
  |trans _ _ h1 h2=>rw [h1,h2]
theorem W_R {R R':List Nat} {U:Nat→Bool} (h:R.Perm R'):∀A:List Nat,W x R U A=W x R' U A
  |[]=>rfl
  |a :: A=>by rw [Wc,Wc,W_R h A,rk_perm h]
theorem T_app (R:List Nat) (A B:List Nat):T x R (A++B)=T x R A+T x R B:=by
  induction A with
  |nil=>show _=0+_;rw [Rat.zero_add];rfl
  |cons a A ih=>rw [List.cons_append,Tc,Tc,ih,Rat.add_assoc]
theorem T_perm {R:List Nat} {A B:List Nat} (h:A.Perm B):T x R A=T x R B:=by
  induction h with
  |nil=>rfl
  |cons a _ ih=>rw [Tc,Tc,ih]
  |swap a b l=>rw [Tc,Tc,Tc,Tc];grind
  |trans _ _ h1 h2=>rw [h1,h2]
theorem T_R {R R':List Nat} (h:R.Perm R'):∀A:List Nat,T x R A=T x R' A
  |[]=>rfl
  |a :: A=>by rw [Tc,Tc,T_R h A,rk_perm h]
theorem sorted {L:List Nat} (hn:L.Nodup) (hi:∀a∈L,∀b∈L,a≠b→x a≠x b):∃M,M.Perm L∧Srt x M:=by
  refine ⟨L.mergeSort (fun a b=>decide (x a≤x b)),List.mergeSort_perm _ _,?_⟩
  have hp:=List.mergeSort_perm L (fun a b=>decide (x a≤x b))
  have h1:=List.pairwise_mergeSort (le:=fun a b=>decide (x a≤x b)) (fun a b d p q=>by simp only [decide_eq_true_eq] at *;grind) (fun a b=>by simp only [Bool.or_eq_true,decide_eq_true_eq];grind) L
  have h2:(L.mergeSort (fun a b=>decide (x a≤x b))).Nodup:=hp.nodup_iff.2 hn
  have h3:=h1.and h2
  refine List.Pairwise.imp_of_mem (fun {a b} ha hb hh=> ?_) h3
  have p:=hh.1
  simp only [decide_eq_true_eq] at p
  have:=hi a (hp.mem_iff.1 ha) b (hp.mem_iff.1 hb) hh.2
  grind
end
def su (f:Nat→Int):Nat→Int
  |0=>0
  |m+1=>su f m+f m
def sq (f:Nat→Rat):Nat→Rat
  |0=>0
  |m+1=>sq f m+f m
theorem su_s (f:Nat→Int) (m:Nat):su f (m+1)=su f m+f m:=rfl
theorem sq_s (f:Nat→Rat) (m:Nat):sq f (m+1)=sq f m+f m:=rfl
theorem su_congr {f g:Nat→Int}:∀{m:Nat},(∀j,j<m→f j=g j)→su f m=su g m
  |0,_=>rfl
  |m+1,h=>by unfold su;rw [su_congr fun j hj=>h j (by omega),h m (by omega)]
theorem sq_congr {f g:Nat→Rat}:∀{m:Nat},(∀j,j<m→f j=g j)→sq f m=sq g m
  |0,_=>rfl
  |m+1,h=>by unfold sq;rw [sq_congr fun j hj=>h j (by omega),h m (by omega)]
theorem su_mul (s:Int) (f:Nat→Int):∀m,su (fun j=>s*f j) m=s*su f m
  |0=>by unfold su;omega
  |m+1=>by unfold su;rw [su_mul s f m,Int.mul_add]
theorem sq_mul (s:Rat) (f:Nat→Rat):∀m,sq (fun j=>s*f j) m=s*sq f m
  |0=>by unfold sq;grind
  |m+1=>by unfold sq;rw [sq_mul s f m];grind
theorem sq_add (f g:Nat→Rat):∀m,sq (fun j=>f j+g j) m=sq f m+sq g m
  |0=>by unfold sq;grind
  |m+1=>by unfold sq;rw [sq_add f g m];grind
theorem sq_zero:∀m,sq (fun _=>0) m=0
  |0=>rfl
  |m+1=>by unfold sq;rw [sq_zero m];grind
theorem sq_ex (f:Nat→Nat→Rat) (n:Nat):∀m,sq (fun i=>sq (fun j=>f i j) n) m=sq (fun j=>sq (fun i=>f i j) m) n
  |0=>(sq_zero n).symm
  |m+1=>by
    show sq _ m+sq _ n=_
    rw [sq_ex f n m,←sq_add];rfl
theorem sq_le {f:Nat→Rat}:∀{m:Nat},(∀j,j<m→f j≤0)→sq f m≤0
  |0,_=>by unfold sq;grind
  |m+1,h=>by
    have:=sq_le (f:=f) (m:=m) fun j hj=>h j (by omega)
    have:=h m (by omega)
    unfold sq;grind
theorem sq_lt {f:Nat→Rat} {i:Nat}:∀{m:Nat},(∀j,j<m→f j≤0)→i<m→f i<0→sq f m<0
  |0,_,hi,_=>by omega
  |m+1,h,hi,k=>by
    have h1:=h m (by omega)
    have h2:=sq_le (f:=f) (m:=m) fun j hj=>h j (by omega)
    unfold sq
    by_cases e:i=m
    · subst e;grind
    · have := sq_lt (f := f) (i := i) (m := m) (fun j hj => h j (by omega)) (by omega) k
      grind
namespace Pol
variable {c : Pol}
variable (c) in
def S (k:Int):List Nat:=(List.range c.n).filter fun i=>decide (c.span i k)
variable (c) in
def xk (k:Int) (i:Nat):Rat:=c.xi i (hf k)
theorem mem_S {i:Nat} {k:Int}:i∈c.S k↔i<c.n∧c.span i k:=by unfold S;simp
theorem rk_S (k:Int) (i:Nat):rk (c.xk k) (c.S k) i=c.tau i k:=by
  have:∀m,rk (c.xk k) ((List.range m).filter fun i=>decide (c.span i k)) i=pr (fun j=>fl (c.lf i k j)) m:=fun m=>by
    induction m with
    |zero=>rfl
    |succ m ih=>
      rw [List.range_succ,List.filter_append,rk_app,ih]
      rw [show pr (fun j=>fl (c.lf i k j)) (m+1)=pr (fun j=>fl (c.lf i k j)) m*fl (c.lf i k m) from rfl]
      by_cases s:c.span m k
      · rw [List.filter_cons_of_pos (by simpa using s)]
        show _*((if c.xi m (hf k)<c.xi i (hf k) then (-1:Int) else 1)*1)=_
        rw [Int.mul_one]
        by_cases z:c.xi m (hf k)<c.xi i (hf k)
        · rw [if_pos z,fl_yes ⟨s,z⟩]
        · rw [if_neg z,fl_no (fun q=>z q.2)]
      · rw [List.filter_cons_of_neg (by simpa using s),fl_no (fun q=>s q.1)];rfl
  exact this c.n
theorem W_S (k:Int) (R:List Nat) (U:Nat→Bool):W (c.xk k) R U (c.S k)=su (fun j=>if c.span j k then (if U j then rk (c.xk k) R j else 0) else 0) c.n:=by
  have:∀m,W (c.xk k) R U ((List.range m).filter fun i=>decide (c.span i k))=su (fun j=>if c.span j k then (if U j then rk (c.xk k) R j else 0) else 0) m:=fun m=>by
    induction m with
    |zero=>rfl
    |succ m ih=>
      rw [List.range_succ,List.filter_append,W_app,ih]
      rw [su_s]
      by_cases s:c.span m k
      · rw [List.filter_cons_of_pos (by simpa using s), if_pos s]
        show _+(_+0)=_
        rw [Int.add_zero]
      · rw [List.filter_cons_of_neg (by simpa using s),if_neg s];rfl
  exact this c.n
theorem T_S (k:Int) (R:List Nat):T (c.xk k) R (c.S k)=sq (fun j=>if c.span j k then (rk (c.xk k) R j:Rat)*c.xk k j else 0) c.n:=by
  have:∀m,T (c.xk k) R ((List.range m).filter fun i=>decide (c.span i k))=sq (fun j=>if c.span j k then (rk (c.xk k) R j:Rat)*c.xk k j else 0) m:=fun m=>by
    induction m with
    |zero=>rfl
    |succ m ih=>
      rw [List.range_succ,List.filter_append,T_app,ih]
      rw [sq_s]
      by_cases s:c.span m k
      · rw [List.filter_cons_of_pos (by simpa using s), if_pos s]
        show _+(_+0)=_
        rw [Rat.add_zero]
      · rw [List.filter_cons_of_neg (by simpa using s),if_neg s];rfl
  exact this c.n
theorem Ok.srt (h:c.Ok) (k:Int):∃M,M.Perm (c.S k)∧Srt (c.xk k) M:=by
  refine sorted (List.nodup_range.filter _) fun a ha b hb hn e=> ?_
  obtain ⟨a1,a2⟩:=mem_S.1 ha
  obtain ⟨b1,b2⟩:=mem_S.1 hb
  refine h.nz a1 b1 (fun z=>hn z.symm) (span_os a2) (span_os b2) ?_
  unfold xk at e
  rw [G_eq];grind
theorem Ok.wind (h:c.Ok) (k:Int) (q:Rat): -1≤su (fun j=>if c.span j k then (if q<c.xi j (k:Rat) then c.dir j else 0) else 0) c.n∧su (fun j=>if c.span j k then (if q<c.xi j (k:Rat) then c.dir j else 0) else 0) c.n≤1:=by
  obtain ⟨s,hs,ha⟩:=h.alt
  obtain ⟨M,hM,hS⟩:=h.srt k
  have e:su (fun j=>if c.span j k then (if q<c.xi j (k:Rat) then c.dir j else 0) else 0) c.n=s*W (c.xk k) (c.S k) (fun j=>decide (q<c.xi j (k:Rat))) (c.S k):=by
    rw [W_S,←su_mul]
    refine su_congr fun j hj=> ?_
    by_cases z:c.span j k
    · rw [if_pos z, if_pos z, rk_S, ha j k hj z]
      by_cases u:q<c.xi j (k:Rat)
      · rw [if_pos u,if_pos (by simpa using u)]
      · rw [if_neg u,if_neg (by simpa using u)];omega
    · rw [if_neg z,if_neg z];omega
  have hw:=W_up (x:=c.xk k) (U:=fun j=>decide (q<c.xi j (k:Rat))) hS fun a ha b hb hab hu=>by
    obtain ⟨a1,a2⟩:=mem_S.1 (hM.mem_iff.1 ha)
    obtain ⟨b1,b2⟩:=mem_S.1 (hM.mem_iff.1 hb)
    have hne:b≠a:=fun z=>by subst z;grind
    simp only [decide_eq_true_eq] at hu ⊢
    unfold xk at hab
    rcases lt_or_le (c.xi b (k:Rat)) (c.xi a (k:Rat)) with z|z
    · have := (h.cst a1 b1 hne (span_c0 a2) (os_cs (span_os a2)) (span_c0 b2) (os_cs (span_os b2)) (by grind) (by grind)).1 z
      grind
    · grind
  rw [e,W_perm hM.symm,W_R hM.symm]
  unfold pm at hs
  generalize W (c.xk k) M (fun j=>decide (q<c.xi j (k:Rat))) M=w at hw
  split at hw <;> rcases hs with rfl|rfl <;> omega
theorem ev (j:Nat) (k:Int):(if c.span j k then c.dir j else 0)=(if c.Y j≤k then (1:Int) else 0) - (if c.Y (nx c.n j)≤k then 1 else 0):=by
  by_cases z:c.span j k
  · rw [if_pos z]
    unfold span at z
    by_cases u:c.Y j<c.Y (nx c.n j)
    · rw [dir_up u,if_pos (by omega),if_neg (by omega)];rfl
    · rw [dir_dn u,if_neg (by omega),if_pos (by omega)];rfl
  · rw [if_neg z]
    unfold span at z
    split <;> split <;> omega
theorem Ok.even (h:c.Ok) (k:Int):(c.S k).length%2=0:=by
  obtain ⟨s,hs,ha⟩:=h.alt
  obtain ⟨M,hM,hS⟩:=h.srt k
  have h3:=h.n3
  have h1:∀m,m<c.n→su (fun j=>if c.span j k then c.dir j else 0) m=(if c.Y 0≤k then 1 else 0) - (if c.Y m≤k then 1 else 0):=fun m=>by
    induction m with
    |zero=>intro _;unfold su;omega
    |succ m ih=>
      intro hm
      rw [su_s]
      rw [ih (by omega)]
      have e:nx c.n m=m+1:=by have:=nx_c c.n m;omega
      rw [ev,e];omega
  have h2:su (fun j=>if c.span j k then c.dir j else 0) c.n=0:=by
    have e:c.n=(c.n - 1)+1:=by omega
    have e2:nx c.n (c.n - 1)=0:=by have:=nx_c c.n (c.n - 1);omega
    rw [e,su_s]
    rw [h1 _ (by omega),ev,e2];omega
  have e:su (fun j=>if c.span j k then c.dir j else 0) c.n=s*W (c.xk k) (c.S k) (fun j=>true) (c.S k):=by
    rw [W_S,←su_mul]
    refine su_congr fun j hj=> ?_
    by_cases z:c.span j k
    · rw [if_pos z,if_pos z,rk_S,ha j k hj z];rfl
    · rw [if_neg z,if_neg z];omega
  rw [h2,W_perm hM.symm,W_R hM.symm,W_all hS fun _ _=>rfl,hM.length_eq] at e
  rcases hs with rfl|rfl <;> omega
variable (c) in
def pl (k:Int):Rat:=sq (fun j=>if c.span j k then (c.dir j:Rat)*c.xi j (hf k) else 0) c.n
theorem Ok.pl_sg (h:c.Ok):∃s:Rat,(s=1∨s= -1)∧∀k,s*c.pl k≤0∧(∀i,i<c.n→c.span i k→s*c.pl k<0):=by
  obtain ⟨s,hs,ha⟩:=h.alt
  refine ⟨(s:Rat),by rcases hs with rfl|rfl;exact .inl (by decide +kernel);exact .inr (by decide +kernel),fun k=> ?_⟩
  obtain ⟨M,hM,hS⟩:=h.srt k
  have e:(s:Rat)*c.pl k=T (c.xk k) M M:=by
    rw [T_perm hM,T_R hM,T_S]
    unfold pl
    rw [← sq_mul]
    refine sq_congr fun j hj=> ?_
    by_cases z:c.span j k
    · rw [if_pos z, if_pos z, rk_S, ha j k hj z, Rat.intCast_mul]
      have:(s:Rat)*(s:Rat)=1:=by rcases hs with rfl|rfl <;> decide +kernel
      unfold xk
      grind
    · rw [if_neg z,if_neg z];grind
  have ht:=(T_sg hS).1 (by rw [hM.length_eq];exact h.even k)
  rw [e]
  exact ⟨ht.1,fun i hi z=>ht.2 fun q=>by have:=hM.mem_iff.2 (mem_S.2 ⟨hi,z⟩);rw [q] at this;cases this⟩
variable (c) in
def F (i:Nat) (t:Rat):Rat:=c.co i*t+c.sl i*(t*t) / 2
theorem F_mid (i:Nat) (k:Int):c.xi i (hf k)=c.F i ((k+1:Int):Rat) - c.F i (k:Rat):=by
  unfold F xi hf
  rw [Rat.intCast_add]
  have:((1:Int):Rat)=1:=rfl
  rw [this]
  grind
theorem slabs (i:Nat) (K:Int) (h1:K≤c.Y i) (h2:K≤c.Y (nx c.n i)):∀m:Nat,sq (fun m=>if c.span i (K+(m:Nat)) then (c.dir i:Rat)*c.xi i (hf (K+(m:Nat))) else 0) m=(c.dir i:Rat)*(c.F i ((max (min (c.Y i) (c.Y (nx c.n i))) (min (K+(m:Nat)) (max (c.Y i) (c.Y (nx c.n i)))):Int):Rat) - c.F i ((min (c.Y i) (c.Y (nx c.n i)):Int):Rat))
  |0=>by
    have e:max (min (c.Y i) (c.Y (nx c.n i))) (min (K+((0:Nat):Int)) (max (c.Y i) (c.Y (nx c.n i))))=min (c.Y i) (c.Y (nx c.n i)):=by omega
    rw [e];unfold sq;grind
  |m+1=>by
    rw [sq_s]
    rw [slabs i K h1 h2 m]
    by_cases s:c.span i (K+(m:Nat))
    · rw [if_pos s]
      unfold span at s
      have e1:max (min (c.Y i) (c.Y (nx c.n i))) (min (K+(m:Nat)) (max (c.Y i) (c.Y (nx c.n i))))=K+(m:Nat):=by omega
      have e2:max (min (c.Y i) (c.Y (nx c.n i))) (min (K+((m+1:Nat):Int)) (max (c.Y i) (c.Y (nx c.n i))))=K+(m:Nat)+1:=by omega
      rw [e1,e2,F_mid]
      grind
    · rw [if_neg s]
      unfold span at s
      have e1:max (min (c.Y i) (c.Y (nx c.n i))) (min (K+((m+1:Nat):Int)) (max (c.Y i) (c.Y (nx c.n i))))=max (min (c.Y i) (c.Y (nx c.n i))) (min (K+(m:Nat)) (max (c.Y i) (c.Y (nx c.n i)))):=by omega
      rw [e1];grind
theorem Ok.edge (h:c.Ok) {i:Nat} (hi:i<c.n) {K:Int} {N:Nat} (h1:∀j,j<c.n→K≤c.Y j∧c.Y j≤K+N):sq (fun m=>if c.span i (K+(m:Nat)) then (c.dir i:Rat)*c.xi i (hf (K+(m:Nat))) else 0) N=(c.y (nx c.n i) - c.y i)*(c.x i+c.x (nx c.n i)) / 2:=by
  have a:=h1 i hi
  have b:=h1 _ (nx_lt hi)
  rw [slabs i K a.1 b.1]
  have e:max (min (c.Y i) (c.Y (nx c.n i))) (min (K+(N:Int)) (max (c.Y i) (c.Y (nx c.n i))))=max (c.Y i) (c.Y (nx c.n i)):=by omega
  rw [e]
  have x0:=xi_0 c i
  have x1:=h.xi_1 hi
  unfold xi at x0 x1
  by_cases z:c.Y i<c.Y (nx c.n i)
  · rw [dir_up z, show min (c.Y i) (c.Y (nx c.n i)) = c.Y i by omega, show max (c.Y i) (c.Y (nx c.n i)) = c.Y (nx c.n i) by omega]
    show ((1:Int):Rat)*(c.F i (c.y (nx c.n i)) - c.F i (c.y i))=_
    have:((1:Int):Rat)=1:=rfl
    rw [this,←x0,←x1]
    unfold F;grind
  · rw [dir_dn z, show min (c.Y i) (c.Y (nx c.n i)) = c.Y (nx c.n i) by omega, show max (c.Y i) (c.Y (nx c.n i)) = c.Y i by omega]
    show ((-1:Int):Rat)*(c.F i (c.y i) - c.F i (c.y (nx c.n i)))=_
    have:((-1:Int):Rat)= -1:=by decide +kernel
    rw [this,←x0,←x1]
    unfold F;grind
theorem bound (f:Nat→Int):∀n:Nat,∃N:Nat,∀j,j<n→ -(N:Int)≤f j∧f j≤N
  |0=>⟨0,fun j hj=>by omega⟩
  |n+1=>by
    obtain ⟨N,hN⟩:=bound f n
    refine ⟨N+(f n).natAbs,fun j hj=> ?_⟩
    by_cases e:j=n
    · subst e;omega
    · have:=hN j (by omega);omega
theorem Ok.area (h:c.Ok):sq (fun i=>(c.y (nx c.n i) - c.y i)*(c.x i+c.x (nx c.n i)) / 2) c.n≠0:=fun hz=>by
  obtain ⟨N,hN⟩:=bound c.Y c.n
  obtain ⟨s,hs,hp⟩:=h.pl_sg
  have h3:=h.n3
  have e:sq (fun i=>(c.y (nx c.n i) - c.y i)*(c.x i+c.x (nx c.n i)) / 2) c.n=sq (fun m=>c.pl (-(N:Int)+(m:Nat))) (2*N):=by
    rw [sq_congr (g:=fun i=>sq (fun m=>if c.span i (-(N:Int)+(m:Nat)) then (c.dir i:Rat)*c.xi i (hf (-(N:Int)+(m:Nat))) else 0) (2*N)) fun i hi=>(h.edge hi (K:= -(N:Int)) (N:=2*N) fun j hj=>by have:=hN j hj;omega).symm]
    rw [sq_ex];rfl
  have h0:=hN 0 (by omega)
  have h1:=hN _ (nx_lt (show 0<c.n by omega))
  have hne:=h.ne (show 0<c.n by omega)
  have hne2:c.Y (nx c.n 0)≠c.Y 0:=fun q=>hne (by unfold y;rw [q])
  have h2:s*sq (fun m=>c.pl (-(N:Int)+(m:Nat))) (2*N)<0:=by
    rw [← sq_mul]
    refine sq_lt (i:=(c.lo 0+N).toNat) (fun j hj=>(hp _).1) (by unfold lo;omega) ((hp _).2 0 (by omega) ?_)
    unfold span lo;omega
  rw [← e,hz] at h2
  grind
end Pol
end Go.Proofs.YtjcpbhlijoigfaaGreat.Sw
namespace Go.Proofs.YtjcpbhlijoigfaaGreat.Sw
open Pg
set_option linter.unusedVariables false
abbrev MM:Int:=8388608
def sY (p:P2):Int:=8388608*p.2 - p.1
def ofL (l:List P2):Pol:=⟨l.length,fun i=>(gt l i).1,fun i=>sY (gt l i)⟩
theorem nx_md {n i:Nat} (h:i<n):nx n i=(i+1)%n:=by
  have h1:=nx_c n i
  have h2:=md_c (x:=i+1) (m:=n) (by omega)
  omega
theorem sY_inj {p q:P2} (hp:inR p) (hq:inR q) (h:sY p=sY q):p=q:=by
  unfold sY at h;unfold inR at hp hq
  exact Prod.ext (by omega) (by omega)
theorem crs_sh (a b p:P2):(b.1 - a.1)*(sY p - sY a) - (sY b - sY a)*(p.1 - a.1)=MM*crs a b p:=by
  unfold sY crs;grind
theorem btw {D d e f:Int} (h0:0<d) (h1:d<D) (h:f*D=d*e):(0≤e→0≤f∧f≤e)∧(e≤0→e≤f∧f≤0):=by
  constructor
  · intro he
    have p1:=Int.mul_nonneg (show 0≤d by omega) he
    have p2:=Int.mul_nonneg (show 0≤D - d by omega) he
    constructor
    · refine Int.not_lt.1 fun k => ?_
      have:=Int.mul_pos (show 0< -f by omega) (show 0<D by omega)
      grind
    · refine Int.not_lt.1 fun k => ?_
      have:=Int.mul_pos (show 0<f - e by omega) (show 0<D by omega)
      grind
  · intro he
    have p1:=Int.mul_nonneg (show 0≤d by omega) (show 0≤ -e by omega)
    have p2:=Int.mul_nonneg (show 0≤D - d by omega) (show 0≤ -e by omega)
    constructor
    · refine Int.not_lt.1 fun k => ?_
      have:=Int.mul_pos (show 0<e - f by omega) (show 0<D by omega)
      grind
    · refine Int.not_lt.1 fun k => ?_
      have:=Int.mul_pos (show 0<f by omega) (show 0<D by omega)
      grind
theorem btw2 {u v x:Int} {D d:Int} (h0:0<d) (h1:d<D) (h:(x - u)*D=d*(v - u)):min u v≤x∧x≤max u v:=by
  obtain ⟨b1,b2⟩:=btw h0 h1 h
  rcases Int.le_total 0 (v - u) with k|k
  · have:=b1 k;omega
  · have:=b2 k;omega
theorem on_sh {a b p:P2} (h0:sY a<sY p∧sY p<sY b) (h:(b.1 - a.1)*(sY p - sY a) - (sY b - sY a)*(p.1 - a.1)=0):onS a b p:=by
  have hc:=crs_sh a b p
  rw [h] at hc
  have hc0:crs a b p=0:=by unfold MM at hc;omega
  refine ⟨hc0,?_⟩
  have e1:=btw2 (u:=a.1) (v:=b.1) (x:=p.1) (D:=sY b - sY a) (d:=sY p - sY a) (by omega) (by omega) (by grind)
  have e2:=btw2 (u:=a.2) (v:=b.2) (x:=p.2) (D:=sY b - sY a) (d:=sY p - sY a) (by omega) (by omega) (by
    have:MM*((p.2 - a.2)*(sY b - sY a))=MM*((sY p - sY a)*(b.2 - a.2)):=by unfold sY MM at *;grind
    exact Int.eq_of_mul_eq_mul_left (by decide) this)
  exact ⟨e1.1,e1.2,e2.1,e2.2⟩
theorem on_sw {a b p:P2} (h:onS b a p):onS a b p:=by
  refine ⟨by rw [crs_sw];have:=h.1;omega,?_⟩
  have:=h.2
  unfold betw at *;omega
theorem side {c:Pol} (i:Nat) (hne:c.y (nx c.n i)≠c.y i) (X Y:Int):((X:Rat) - c.xi i (Y:Rat))*(c.y (nx c.n i) - c.y i)= -(((c.X (nx c.n i) - c.X i)*(Y - c.Y i) - (c.Y (nx c.n i) - c.Y i)*(X - c.X i):Int):Rat):=by
  have h2:c.sl i*(c.y (nx c.n i) - c.y i)=c.x (nx c.n i) - c.x i:=by
    unfold Pol.sl
    exact Rat.div_mul_cancel (by grind)
  simp only [Rat.intCast_sub,Rat.intCast_mul]
  unfold Pol.xi Pol.co
  unfold Pol.x Pol.y at*
  grind
theorem opp_mul {u v:Rat} (h:Pol.opp u v):u*v<0:=by
  rcases h with ⟨a,b⟩|⟨a,b⟩
  · have:=Rat.mul_pos (show 0< -u by grind) b;grind
  · have:=Rat.mul_pos a (show 0< -v by grind);grind
theorem sgn_opp {u v e:Rat} {z w:Int} (h:Pol.opp u v) (he:e≠0) (h1:u*e=(z:Rat)) (h2:v*e=(w:Rat)):z*w<0:=by
  have k:=opp_mul h
  have he2:0<e*e:=by
    rcases lt_or_le 0 e with q|q
    · exact Rat.mul_pos q q
    · have:=Rat.mul_pos (show 0< -e by grind) (show 0< -e by grind);grind
  have k2:(z:Rat)*(w:Rat)=(u*v)*(e*e):=by rw [← h1,←h2];grind
  have k3:=Rat.mul_pos (show 0< -(u*v) by grind) he2
  have k4:((z*w:Int):Rat)<((0:Int):Rat):=by
    rw [Rat.intCast_mul,k2]
    have:((0:Int):Rat)=0:=rfl
    rw [this];grind
  exact Rat.intCast_lt_intCast.1 k4
theorem sgn_mm {z w:Int} (h:(MM*z)*(MM*w)<0):z.sign*w.sign<0:=by
  have h1:z*w<0:=by
    refine Int.not_le.1 fun k=> ?_
    have:(MM*z)*(MM*w)=MM*MM*(z*w):=by grind
    have k2:0≤MM*MM*(z*w):=Int.mul_nonneg (by decide) k
    omega
  rw [← Int.sign_mul,Int.sign_eq_neg_one_of_neg h1];decide
theorem ok_of {n:Nat} {l:List P2} (h:Sm n l) (hr:∀x∈l,inR x):(ofL l).Ok:=by
  have hl:=h.len
  have hg:∀i,i<l.length→inR (gt l i):=fun i hi=>Pg.Ok.gt hr hi
  have hinj:∀i j,i<l.length→j<l.length→(ofL l).y i=(ofL l).y j→i=j:=fun i j hi hj e=>by
    have e2:sY (gt l i)=sY (gt l j):=Rat.intCast_inj.1 e
    exact h.inj (by omega) (by omega) (sY_inj (hg i hi) (hg j hj) e2)
  have h3:=h.n3
  have hne:∀i,i<l.length→(ofL l).y (nx l.length i)≠(ofL l).y i:=fun i hi k=>by
    have:=hinj _ _ (nx_lt hi) hi k
    have:=nx_c l.length i
    omega
  refine ⟨by show 3≤l.length;omega,hinj,fun i w hi hw w1 w2 ho e=> ?_,fun i j hi hj j1 j2 j3 hh=> ?_⟩
  · have hi' : i < l.length := hi
    have hw':w<l.length:=hw
    have hs:=side i (hne i hi) (gt l w).1 (sY (gt l w))
    rw [show (((gt l w).1:Int):Rat)=(ofL l).x w from rfl,show ((sY (gt l w):Int):Rat)=(ofL l).y w from rfl,←e] at hs
    have hz:(((gt l (nx l.length i)).1 - (gt l i).1)*(sY (gt l w) - sY (gt l i)) - (sY (gt l (nx l.length i)) - sY (gt l i))*((gt l w).1 - (gt l i).1):Int)=0:=by
      refine Rat.intCast_inj.1 ?_
      show (((((gt l (nx l.length i)).1 - (gt l i).1)*(sY (gt l w) - sY (gt l i)) - (sY (gt l (nx l.length i)) - sY (gt l i))*((gt l w).1 - (gt l i).1):Int):Rat))=0
      have: -(((((gt l (nx l.length i)).1 - (gt l i).1)*(sY (gt l w) - sY (gt l i)) - (sY (gt l (nx l.length i)) - sY (gt l i))*((gt l w).1 - (gt l i).1):Int):Rat))=0:=by
        refine Eq.trans hs.symm ?_
        grind
      grind
    have hon:onS (gt l i) (gt l (nx l.length i)) (gt l w):=by
      unfold Pol.os Pol.y at ho
      rcases ho with ⟨p,q⟩|⟨p,q⟩
      · exact on_sh ⟨Rat.intCast_lt_intCast.1 p,Rat.intCast_lt_intCast.1 q⟩ hz
      · refine on_sw (on_sh ⟨Rat.intCast_lt_intCast.1 p, Rat.intCast_lt_intCast.1 q⟩ ?_)
        grind
    have en:nx l.length i=(i+1)%n:=by rw [← hl];exact nx_md hi
    by_cases k:nx l.length w=i
    · refine h.a w (by omega) (.inr ?_)
      have e1:(w+1)%n=i:=by rw [← hl,←nx_md hw'];exact k
      have e2:(w+2)%n=(i+1)%n:=by rw [← e1,Nat.mod_add_mod]
      rw [e1,e2,←en];exact hon
    · refine h.b i w (by omega) (by omega) (fun q => w1 q.symm) (fun q => w2 (by rw [← q, ← en]; rfl)) (fun q => k (by rw [nx_md hw', hl]; exact q)) ?_
      rw [← en]
      exact .inr (.inl hon)
  · have hi' : i < l.length := hi
    have hj':j<l.length:=hj
    have en:nx l.length i=(i+1)%n:=by rw [← hl];exact nx_md hi
    have em:nx l.length j=(j+1)%n:=by rw [← hl];exact nx_md hj
    refine h.b i j (by omega) (by omega) (fun q=>j1 q.symm) (fun q=>j2 (by rw [← q,←en];rfl)) (fun q=>j3 (by rw [← q,←em];rfl)) (.inl ?_)
    rw [← en,←em]
    have hok1:=hne i hi
    have hok2:=hne j hj
    have x1:(ofL l).xi j ((ofL l).y (nx l.length j))=(ofL l).x (nx l.length j):=by
      have h2:(ofL l).sl j*((ofL l).y (nx l.length j) - (ofL l).y j)=(ofL l).x (nx l.length j) - (ofL l).x j:=by
        unfold Pol.sl
        exact Rat.div_mul_cancel (by show (ofL l).y (nx l.length j) - (ofL l).y j≠0;grind)
      unfold Pol.xi Pol.co;grind
    have x2:(ofL l).xi i ((ofL l).y (nx l.length i))=(ofL l).x (nx l.length i):=by
      have h2:(ofL l).sl i*((ofL l).y (nx l.length i) - (ofL l).y i)=(ofL l).x (nx l.length i) - (ofL l).x i:=by
        unfold Pol.sl
        exact Rat.div_mul_cancel (by show (ofL l).y (nx l.length i) - (ofL l).y i≠0;grind)
      unfold Pol.xi Pol.co;grind
    obtain ⟨ha,hb⟩:=hh
    rw [Pol.G_eq,Pol.G_eq,Pol.xi_0] at ha
    rw [Pol.G_eq,Pol.G_eq,Pol.xi_0] at hb
    have x1':(ofL l).xi j ((ofL l).y (nx (ofL l).n j))=(ofL l).x (nx l.length j):=x1
    have x2':(ofL l).xi i ((ofL l).y (nx (ofL l).n i))=(ofL l).x (nx l.length i):=x2
    rw [x1'] at ha
    rw [x2'] at hb
    have s1:=side i (hne i hi) (gt l j).1 (sY (gt l j))
    have s2:=side i (hne i hi) (gt l (nx l.length j)).1 (sY (gt l (nx l.length j)))
    have s3:=side j (hne j hj) (gt l i).1 (sY (gt l i))
    have s4:=side j (hne j hj) (gt l (nx l.length i)).1 (sY (gt l (nx l.length i)))
    have c1:=crs_sh (gt l i) (gt l (nx l.length i)) (gt l j)
    have c2:=crs_sh (gt l i) (gt l (nx l.length i)) (gt l (nx l.length j))
    have c3:=crs_sh (gt l j) (gt l (nx l.length j)) (gt l i)
    have c4:=crs_sh (gt l j) (gt l (nx l.length j)) (gt l (nx l.length i))
    constructor
    · refine sgn_mm ?_
      have:=sgn_opp ha (e:=(ofL l).y (nx l.length i) - (ofL l).y i) (by grind) (z:= -(MM*crs (gt l i) (gt l (nx l.length i)) (gt l j))) (w:= -(MM*crs (gt l i) (gt l (nx l.length i)) (gt l (nx l.length j)))) (by rw [← c1,Rat.intCast_neg];exact s1) (by rw [← c2,Rat.intCast_neg];exact s2)
      grind
    · refine sgn_mm ?_
      have hb':Pol.opp ((ofL l).x i - (ofL l).xi j ((ofL l).y i)) ((ofL l).x (nx l.length i) - (ofL l).xi j ((ofL l).y (nx l.length i))):=by
        unfold Pol.opp at hb ⊢
        have hn:(ofL l).n=l.length:=rfl
        rw [hn] at hb
        grind
      have:=sgn_opp hb' (e:=(ofL l).y (nx l.length j) - (ofL l).y j) (by grind) (z:= -(MM*crs (gt l j) (gt l (nx l.length j)) (gt l i))) (w:= -(MM*crs (gt l j) (gt l (nx l.length j)) (gt l (nx l.length i)))) (by rw [← c3,Rat.intCast_neg];exact s3) (by rw [← c4,Rat.intCast_neg];exact s4)
      grind
end Go.Proofs.YtjcpbhlijoigfaaGreat.Sw
namespace Go.Proofs.YtjcpbhlijoigfaaGreat.Sw
open Pg
set_option linter.unusedVariables false
theorem sq_tel {n:Nat} (hn:1≤n) (v:Nat→Rat):sq (fun i=>v (nx n i) - v i) n=0:=by
  have h1:∀m,m<n→sq (fun i=>v (nx n i) - v i) m=v m - v 0:=fun m=>by
    induction m with
    |zero=>intro _;show (0:Rat)=_;grind
    |succ m ih=>
      intro hm
      have e:nx n m=m+1:=by have:=nx_c n m;omega
      rw [sq_s,ih (by omega),e];grind
  have e:n=(n - 1)+1:=by omega
  have e2:nx n (n - 1)=0:=by have:=nx_c n (n - 1);omega
  have h2:=h1 (n - 1) (by omega)
  have h3:sq (fun i=>v (nx n i) - v i) ((n - 1)+1)=0:=by
    rw [sq_s,h2,e2];grind
  rw [← e] at h3
  exact h3
theorem sq_db (n:Nat) (l:List P2):∀m,sq (fun i=>((tm n l i:Int):Rat)) m=((dbN n l m:Int):Rat)
  |0=>rfl
  |m+1=>by rw [sq_s,sq_db n l m,←Rat.intCast_add];rfl
def vv (l:List P2) (i:Nat):Rat:=(4194304:Rat)*((ofL l).x i*(((gt l i).2:Int):Rat)) - (ofL l).x i*(ofL l).x i / 2
theorem db_ne {n:Nat} {l:List P2} (h:Sm n l) (hr:∀x∈l,inR x):db l≠0:=fun hz=>by
  have hok:=ok_of h hr
  have hl:=h.len
  have h3:=h.n3
  refine hok.area ?_
  have e:∀i,i<l.length→((ofL l).y (nx (ofL l).n i) - (ofL l).y i)*((ofL l).x i+(ofL l).x (nx (ofL l).n i)) / 2=(4194304:Rat)*((tm l.length l i:Int):Rat)+(vv l (nx l.length i) - vv l i):=fun i hi=>by
    have hy:∀j,(ofL l).y j=8388608*(((gt l j).2:Int):Rat) - (ofL l).x j:=fun j=>by
      show ((sY (gt l j):Int):Rat)=8388608*(((gt l j).2:Int):Rat) - (((gt l j).1:Int):Rat)
      unfold sY
      rw [Rat.intCast_sub,Rat.intCast_mul];rfl
    have ht:((tm l.length l i:Int):Rat)=(ofL l).x i*(((gt l (nx l.length i)).2:Int):Rat) - (ofL l).x (nx l.length i)*(((gt l i).2:Int):Rat):=by
      unfold tm
      rw [← nx_md hi,Rat.intCast_sub,Rat.intCast_mul,Rat.intCast_mul];rfl
    rw [hy,hy,ht]
    unfold vv
    show _=_
    have:(ofL l).n=l.length:=rfl
    rw [this]
    grind
  have e2:sq (fun i=>((ofL l).y (nx (ofL l).n i) - (ofL l).y i)*((ofL l).x i+(ofL l).x (nx (ofL l).n i)) / 2) l.length=0:=by
    rw [sq_congr e,sq_add,sq_mul,sq_db,sq_tel (by omega) (vv l)]
    have:dbN l.length l l.length=0:=hz
    rw [this]
    show (4194304:Rat)*((0:Int):Rat)+0=0
    have:((0:Int):Rat)=0:=rfl
    rw [this];grind
  exact e2
def cr (q a b:P2):Int:=if a.2≤q.2∧q.2<b.2∧0<crs a b q then 1 else if b.2≤q.2∧q.2<a.2∧crs a b q<0 then -1 else 0
theorem cr_c (q a b:P2):(a.2≤q.2∧q.2<b.2∧0<crs a b q)∧cr q a b=1∨(b.2≤q.2∧q.2<a.2∧crs a b q<0)∧cr q a b= -1∨¬(a.2≤q.2∧q.2<b.2∧0<crs a b q)∧¬(b.2≤q.2∧q.2<a.2∧crs a b q<0)∧cr q a b=0:=by
  unfold cr
  by_cases h1:a.2≤q.2∧q.2<b.2∧0<crs a b q
  · exact .inl ⟨h1,if_pos h1⟩
  · by_cases h2 : b.2 ≤ q.2 ∧ q.2 < a.2 ∧ crs a b q < 0
    · exact .inr (.inl ⟨h2,by rw [if_neg h1,if_pos h2]⟩)
    · exact .inr (.inr ⟨h1,h2,by rw [if_neg h1,if_neg h2]⟩)
theorem cr_sw (q a b:P2):cr q b a= - cr q a b:=by
  have h1:=cr_c q a b
  have h2:=cr_c q b a
  have h3:=crs_sw a b q
  omega
theorem up_iff {a b q:P2} (ha:inR a) (hb:inR b) (hq:inR q) (h:0<crs a b q):(a.2≤q.2∧q.2<b.2)↔(sY a≤sY q∧sY q<sY b):=by
  have e:crs a b q=(b.1 - a.1)*(q.2 - a.2) - (b.2 - a.2)*(q.1 - a.1):=rfl
  unfold inR at ha hb hq
  unfold sY
  constructor
  · rintro ⟨h1, h2⟩
    by_cases k:a.2=q.2
    · rw [show q.2 - a.2 = 0 by omega, Int.mul_zero] at e
      have:q.1<a.1:=Int.not_le.1 fun z=>by
        have:=Int.mul_nonneg (show 0≤b.2 - a.2 by omega) (show 0≤q.1 - a.1 by omega)
        omega
      omega
    · omega
  · rintro ⟨h1, h2⟩
    refine ⟨by omega,Int.not_le.1 fun z=> ?_⟩
    have k:q.2=b.2:=by omega
    have:=Int.mul_nonneg (show 0≤b.2 - a.2 by omega) (show 0≤q.1 - b.1 by omega)
    rw [k] at e
    have:crs a b q= -((b.2 - a.2)*(q.1 - b.1)):=by rw [e];grind
    omega
theorem lt_side {g e:Rat} {z:Int} (h:g*e= -((MM*z:Int):Rat)):(0<e→(g<0↔0<z))∧(e<0→(g<0↔z<0)):=by
  have hm:((MM*z:Int):Rat)=8388608*(z:Rat):=by rw [Rat.intCast_mul];rfl
  rw [hm] at h
  have z1:0<z↔(0:Rat)<(z:Rat):=(Rat.intCast_lt_intCast (a:=0) (b:=z)).symm
  have z2:z<0↔(z:Rat)<(0:Rat):=(Rat.intCast_lt_intCast (a:=z) (b:=0)).symm
  rw [z1,z2]
  refine ⟨fun he=>⟨fun k=> ?_,fun k=> ?_⟩,fun he=>⟨fun k=> ?_,fun k=> ?_⟩⟩
  · have:=Rat.mul_pos (show 0< -g by grind) he;grind
  · rcases lt_or_le g 0 with q | q
    · exact q
    · have:=Rat.mul_nonneg q (Rat.le_of_lt he);grind
  · have:=Rat.mul_pos (show 0< -g by grind) (show 0< -e by grind);grind
  · rcases lt_or_le g 0 with q | q
    · exact q
    · have:=Rat.mul_nonneg q (show 0≤ -e by grind);grind
theorem cr_sh {n:Nat} {l:List P2} (h:Sm n l) (hr:∀x∈l,inR x) {q:P2} (hq:inR q) {i:Nat} (hi:i<l.length):cr q (gt l i) (gt l (nx l.length i))=if (ofL l).span i (sY q) then (if (q.1:Rat)<(ofL l).xi i ((sY q:Int):Rat) then (ofL l).dir i else 0) else 0:=by
  have hok:=ok_of h hr
  have hi':i<(ofL l).n:=hi
  have hne:=hok.ne hi'
  have hs:=side i hne q.1 (sY q)
  have ha:inR (gt l i):=Pg.Ok.gt hr hi
  have hb:inR (gt l (nx l.length i)):=Pg.Ok.gt hr (nx_lt hi)
  have hc:(((ofL l).X (nx (ofL l).n i) - (ofL l).X i)*(sY q - (ofL l).Y i) - ((ofL l).Y (nx (ofL l).n i) - (ofL l).Y i)*(q.1 - (ofL l).X i):Int)=MM*crs (gt l i) (gt l (nx l.length i)) q:=crs_sh _ _ _
  rw [hc] at hs
  obtain ⟨l1,l2⟩:=lt_side hs
  have hg:((q.1:Int):Rat) - (ofL l).xi i ((sY q:Int):Rat)<0↔(q.1:Rat)<(ofL l).xi i ((sY q:Int):Rat):=by constructor <;> intro _ <;> grind
  rw [hg] at l1 l2
  have hy:(ofL l).y (nx (ofL l).n i)≠(ofL l).y i:=hne
  have hyy:sY (gt l (nx l.length i))≠sY (gt l i):=fun k=>hy (by unfold Pol.y;exact congrArg (fun z:Int=>(z:Rat)) k)
  have hcc:=cr_c q (gt l i) (gt l (nx l.length i))
  have hsp:(ofL l).span i (sY q)↔(sY (gt l i)≤sY q∧sY q<sY (gt l (nx l.length i))∨sY (gt l (nx l.length i))≤sY q∧sY q<sY (gt l i)):=Iff.rfl
  have u1:=up_iff (q:=q) ha hb hq
  have u2:=up_iff (q:=q) hb ha hq
  rw [crs_sw] at u2
  by_cases up:sY (gt l i)<sY (gt l (nx l.length i))
  · have hd : (ofL l).dir i = 1 := Pol.dir_up up
    have k := l1 (by have : (ofL l).y i < (ofL l).y (nx (ofL l).n i) := Rat.intCast_lt_intCast.2 up
                     grind)
    rw [hd]
    by_cases s:(ofL l).span i (sY q)
    · rw [if_pos s]
      rw [hsp] at s
      by_cases t:(q.1:Rat)<(ofL l).xi i ((sY q:Int):Rat)
      · rw [if_pos t]
        have:=k.1 t
        have:=(u1 this).2 (by omega)
        omega
      · rw [if_neg t]
        have:¬0<crs (gt l i) (gt l (nx l.length i)) q:=fun z=>t (k.2 z)
        rcases hcc with ⟨z,_⟩|⟨z,_⟩|⟨_,_,z⟩
        · exact absurd z.2.2 this
        · have:=(u2 (by omega)).1 ⟨z.1,z.2.1⟩;omega
        · exact z
    · rw [if_neg s]
      rw [hsp] at s
      rcases hcc with ⟨z,_⟩|⟨z,_⟩|⟨_,_,z⟩
      · have:=(u1 z.2.2).1 ⟨z.1,z.2.1⟩;omega
      · have:=(u2 (by omega)).1 ⟨z.1,z.2.1⟩;omega
      · exact z
  · have hd : (ofL l).dir i = -1 := Pol.dir_dn up
    have k := l2 (by have : (ofL l).y (nx (ofL l).n i) < (ofL l).y i := Rat.intCast_lt_intCast.2 (show sY (gt l (nx l.length i)) < sY (gt l i) by omega)
                     grind)
    rw [hd]
    by_cases s:(ofL l).span i (sY q)
    · rw [if_pos s]
      rw [hsp] at s
      by_cases t:(q.1:Rat)<(ofL l).xi i ((sY q:Int):Rat)
      · rw [if_pos t]
        have:=k.1 t
        have:=(u2 (by omega)).2 (by omega)
        omega
      · rw [if_neg t]
        have:¬crs (gt l i) (gt l (nx l.length i)) q<0:=fun z=>t (k.2 z)
        rcases hcc with ⟨z,_⟩|⟨z,_⟩|⟨_,_,z⟩
        · have:=(u1 z.2.2).1 ⟨z.1,z.2.1⟩;omega
        · exact absurd z.2.2 this
        · exact z
    · rw [if_neg s]
      rw [hsp] at s
      rcases hcc with ⟨z,_⟩|⟨z,_⟩|⟨_,_,z⟩
      · have:=(u1 z.2.2).1 ⟨z.1,z.2.1⟩;omega
      · have:=(u2 (by omega)).1 ⟨z.1,z.2.1⟩;omega
      · exact z
def wn (n:Nat) (l:List P2) (q:P2):Nat→Int:=su fun i=>cr q (gt l i) (gt l ((i+1)%n))
end Go.Proofs.YtjcpbhlijoigfaaGreat.Sw
namespace Go.Proofs.YtjcpbhlijoigfaaGreat.Er
open Pg Sw
set_option linter.unusedVariables false
section
variable (M : Int)
def sM (p:P2):Int:=M*p.2 - p.1
def ofM (l:List P2):Pol:=⟨l.length,fun i=>(gt l i).1,fun i=>sM M (gt l i)⟩
def inM (p:P2):Prop:= -M<4*p.1∧4*p.1<M
theorem lin0 {d e:Int} (h:M*d=e) (h1: -M<e) (h2:e<M):d=0:=by
  rcases Int.lt_trichotomy d 0 with k|k|k
  · have := Int.mul_nonneg (show 0 ≤ M by omega) (show 0 ≤ -d - 1 by omega)
    grind
  · exact k
  · have := Int.mul_nonneg (show 0 ≤ M by omega) (show 0 ≤ d - 1 by omega)
    grind
theorem mono1 (hM:0<M) {d e:Int} (h:d<e):M*d+M≤M*e:=by
  have:=Int.mul_nonneg (show 0≤M by omega) (show 0≤e - d - 1 by omega)
  grind
theorem sM_inj (hM:0<M) {p q:P2} (hp:inM M p) (hq:inM M q) (h:sM M p=sM M q):p=q:=by
  unfold sM at h;unfold inM at hp hq
  have h2:M*(p.2 - q.2)=p.1 - q.1:=by grind
  have h3:=lin0 M h2 (by omega) (by omega)
  rw [h3,Int.mul_zero] at h2
  exact Prod.ext (by omega) (by omega)
theorem crs_sh (a b p:P2):(b.1 - a.1)*(sM M p - sM M a) - (sM M b - sM M a)*(p.1 - a.1)=M*crs a b p:=by
  unfold sM crs;grind
theorem on_sh (hM:0<M) {a b p:P2} (h0:sM M a<sM M p∧sM M p<sM M b) (h:(b.1 - a.1)*(sM M p - sM M a) - (sM M b - sM M a)*(p.1 - a.1)=0):onS a b p:=by
  have hc:=crs_sh M a b p
  rw [h] at hc
  have hc0:crs a b p=0:=by rcases Int.mul_eq_zero.1 hc.symm with k|k;omega;exact k
  refine ⟨hc0,?_⟩
  have e1:=btw2 (u:=a.1) (v:=b.1) (x:=p.1) (D:=sM M b - sM M a) (d:=sM M p - sM M a) (by omega) (by omega) (by grind)
  have e2:=btw2 (u:=a.2) (v:=b.2) (x:=p.2) (D:=sM M b - sM M a) (d:=sM M p - sM M a) (by omega) (by omega) (by
    have:M*((p.2 - a.2)*(sM M b - sM M a))=M*((sM M p - sM M a)*(b.2 - a.2)):=by unfold sM at *;grind
    exact Int.eq_of_mul_eq_mul_left (by omega) this)
  exact ⟨e1.1,e1.2,e2.1,e2.2⟩
theorem sgn_mm (hM:0<M) {z w:Int} (h:(M*z)*(M*w)<0):z.sign*w.sign<0:=by
  have h1:z*w<0:=by
    refine Int.not_le.1 fun k=> ?_
    have:(M*z)*(M*w)=M*M*(z*w):=by grind
    have k2:0≤M*M*(z*w):=Int.mul_nonneg (Int.mul_nonneg (by omega) (by omega)) k
    omega
  rw [← Int.sign_mul,Int.sign_eq_neg_one_of_neg h1];decide
theorem ok_of (hM:0<M) {n:Nat} {l:List P2} (h:Sm n l) (hr:∀x∈l,inM M x):(ofM M l).Ok:=by
  have hl:=h.len
  have hg:∀i,i<l.length→inM M (gt l i):=fun i hi=>hr _ (Ms.getD_mem (0,0) hi)
  have hinj:∀i j,i<l.length→j<l.length→(ofM M l).y i=(ofM M l).y j→i=j:=fun i j hi hj e=>by
    have e2:sM M (gt l i)=sM M (gt l j):=Rat.intCast_inj.1 e
    exact h.inj (by omega) (by omega) (sM_inj M hM (hg i hi) (hg j hj) e2)
  have h3:=h.n3
  have hne:∀i,i<l.length→(ofM M l).y (nx l.length i)≠(ofM M l).y i:=fun i hi k=>by
    have:=hinj _ _ (nx_lt hi) hi k
    have:=nx_c l.length i
    omega
  refine ⟨by show 3≤l.length;omega,hinj,fun i w hi hw w1 w2 ho e=> ?_,fun i j hi hj j1 j2 j3 hh=> ?_⟩
  · have hi' : i < l.length := hi
    have hw':w<l.length:=hw
    have hs:=side i (hne i hi) (gt l w).1 (sM M (gt l w))
    rw [show (((gt l w).1:Int):Rat)=(ofM M l).x w from rfl,show ((sM M (gt l w):Int):Rat)=(ofM M l).y w from rfl,←e] at hs
    have hz:(((gt l (nx l.length i)).1 - (gt l i).1)*(sM M (gt l w) - sM M (gt l i)) - (sM M (gt l (nx l.length i)) - sM M (gt l i))*((gt l w).1 - (gt l i).1):Int)=0:=by
      refine Rat.intCast_inj.1 ?_
      show (((((gt l (nx l.length i)).1 - (gt l i).1)*(sM M (gt l w) - sM M (gt l i)) - (sM M (gt l (nx l.length i)) - sM M (gt l i))*((gt l w).1 - (gt l i).1):Int):Rat))=0
      have: -(((((gt l (nx l.length i)).1 - (gt l i).1)*(sM M (gt l w) - sM M (gt l i)) - (sM M (gt l (nx l.length i)) - sM M (gt l i))*((gt l w).1 - (gt l i).1):Int):Rat))=0:=by
        refine Eq.trans hs.symm ?_
        grind
      grind
    have hon:onS (gt l i) (gt l (nx l.length i)) (gt l w):=by
      unfold Pol.os Pol.y at ho
      rcases ho with ⟨p,q⟩|⟨p,q⟩
      · exact on_sh M hM ⟨Rat.intCast_lt_intCast.1 p,Rat.intCast_lt_intCast.1 q⟩ hz
      · refine on_sw (on_sh M hM ⟨Rat.intCast_lt_intCast.1 p, Rat.intCast_lt_intCast.1 q⟩ ?_)
        grind
    have en:nx l.length i=(i+1)%n:=by rw [← hl];exact nx_md hi
    by_cases k:nx l.length w=i
    · refine h.a w (by omega) (.inr ?_)
      have e1:(w+1)%n=i:=by rw [← hl,←nx_md hw'];exact k
      have e2:(w+2)%n=(i+1)%n:=by rw [← e1,Nat.mod_add_mod]
      rw [e1,e2,←en];exact hon
    · refine h.b i w (by omega) (by omega) (fun q => w1 q.symm) (fun q => w2 (by rw [← q, ← en]; rfl)) (fun q => k (by rw [nx_md hw', hl]; exact q)) ?_
      rw [← en]
      exact .inr (.inl hon)
  · have hi' : i < l.length := hi
    have hj':j<l.length:=hj
    have en:nx l.length i=(i+1)%n:=by rw [← hl];exact nx_md hi
    have em:nx l.length j=(j+1)%n:=by rw [← hl];exact nx_md hj
    refine h.b i j (by omega) (by omega) (fun q=>j1 q.symm) (fun q=>j2 (by rw [← q,←en];rfl)) (fun q=>j3 (by rw [← q,←em];rfl)) (.inl ?_)
    rw [← en,←em]
    have hok1:=hne i hi
    have hok2:=hne j hj
    have x1:(ofM M l).xi j ((ofM M l).y (nx l.length j))=(ofM M l).x (nx l.length j):=by
      have h2:(ofM M l).sl j*((ofM M l).y (nx l.length j) - (ofM M l).y j)=(ofM M l).x (nx l.length j) - (ofM M l).x j:=by
        unfold Pol.sl
        exact Rat.div_mul_cancel (by show (ofM M l).y (nx l.length j) - (ofM M l).y j≠0;grind)
      unfold Pol.xi Pol.co;grind
    have x2:(ofM M l).xi i ((ofM M l).y (nx l.length i))=(ofM M l).x (nx l.length i):=by
      have h2:(ofM M l).sl i*((ofM M l).y (nx l.length i) - (ofM M l).y i)=(ofM M l).x (nx l.length i) - (ofM M l).x i:=by
        unfold Pol.sl
        exact Rat.div_mul_cancel (by show (ofM M l).y (nx l.length i) - (ofM M l).y i≠0;grind)
      unfold Pol.xi Pol.co;grind
    obtain ⟨ha,hb⟩:=hh
    rw [Pol.G_eq,Pol.G_eq,Pol.xi_0] at ha
    rw [Pol.G_eq,Pol.G_eq,Pol.xi_0] at hb
    have x1':(ofM M l).xi j ((ofM M l).y (nx (ofM M l).n j))=(ofM M l).x (nx l.length j):=x1
    have x2':(ofM M l).xi i ((ofM M l).y (nx (ofM M l).n i))=(ofM M l).x (nx l.length i):=x2
    rw [x1'] at ha
    rw [x2'] at hb
    have s1:=side i (hne i hi) (gt l j).1 (sM M (gt l j))
    have s2:=side i (hne i hi) (gt l (nx l.length j)).1 (sM M (gt l (nx l.length j)))
    have s3:=side j (hne j hj) (gt l i).1 (sM M (gt l i))
    have s4:=side j (hne j hj) (gt l (nx l.length i)).1 (sM M (gt l (nx l.length i)))
    have c1:=crs_sh M (gt l i) (gt l (nx l.length i)) (gt l j)
    have c2:=crs_sh M (gt l i) (gt l (nx l.length i)) (gt l (nx l.length j))
    have c3:=crs_sh M (gt l j) (gt l (nx l.length j)) (gt l i)
    have c4:=crs_sh M (gt l j) (gt l (nx l.length j)) (gt l (nx l.length i))
    constructor
    · refine sgn_mm M hM ?_
      have:=sgn_opp ha (e:=(ofM M l).y (nx l.length i) - (ofM M l).y i) (by grind) (z:= -(M*crs (gt l i) (gt l (nx l.length i)) (gt l j))) (w:= -(M*crs (gt l i) (gt l (nx l.length i)) (gt l (nx l.length j)))) (by rw [← c1,Rat.intCast_neg];exact s1) (by rw [← c2,Rat.intCast_neg];exact s2)
      grind
    · refine sgn_mm M hM ?_
      have hb':Pol.opp ((ofM M l).x i - (ofM M l).xi j ((ofM M l).y i)) ((ofM M l).x (nx l.length i) - (ofM M l).xi j ((ofM M l).y (nx l.length i))):=by
        unfold Pol.opp at hb ⊢
        have hn:(ofM M l).n=l.length:=rfl
        rw [hn] at hb
        grind
      have:=sgn_opp hb' (e:=(ofM M l).y (nx l.length j) - (ofM M l).y j) (by grind) (z:= -(M*crs (gt l j) (gt l (nx l.length j)) (gt l i))) (w:= -(M*crs (gt l j) (gt l (nx l.length j)) (gt l (nx l.length i)))) (by rw [← c3,Rat.intCast_neg];exact s3) (by rw [← c4,Rat.intCast_neg];exact s4)
      grind
theorem up_iff (hM:0<M) {a b q:P2} (ha:inM M a) (hb:inM M b) (hq:inM M q) (h:0<crs a b q):(a.2≤q.2∧q.2<b.2)↔(sM M a≤sM M q∧sM M q<sM M b):=by
  have e:crs a b q=(b.1 - a.1)*(q.2 - a.2) - (b.2 - a.2)*(q.1 - a.1):=rfl
  unfold inM at ha hb hq
  unfold sM
  constructor
  · rintro ⟨h1, h2⟩
    have m2:=mono1 M hM h2
    by_cases k:a.2=q.2
    · rw [show q.2 - a.2 = 0 by omega, Int.mul_zero] at e
      have:q.1<a.1:=Int.not_le.1 fun z=>by
        have:=Int.mul_nonneg (show 0≤b.2 - a.2 by omega) (show 0≤q.1 - a.1 by omega)
        omega
      rw [k];omega
    · have m1 := mono1 M hM (show a.2 < q.2 by omega)
      omega
  · rintro ⟨h1, h2⟩
    have k1:a.2≤q.2:=Int.not_lt.1 fun z=>by have:=mono1 M hM z;omega
    have k2:q.2≤b.2:=Int.not_lt.1 fun z=>by have:=mono1 M hM z;omega
    refine ⟨k1,Int.not_le.1 fun z=> ?_⟩
    have k:q.2=b.2:=by omega
    rw [k] at h2 e
    have:=Int.mul_nonneg (show 0≤b.2 - a.2 by omega) (show 0≤q.1 - b.1 by omega)
    have:crs a b q= -((b.2 - a.2)*(q.1 - b.1)):=by rw [e];grind
    omega
theorem lt_side (hM:0<M) {g e:Rat} {z:Int} (h:g*e= -((M*z:Int):Rat)):(0<e→(g<0↔0<z))∧(e<0→(g<0↔z<0)):=by
  have hm:((M*z:Int):Rat)=(M:Rat)*(z:Rat):=Rat.intCast_mul ..
  have hM':(0:Rat)<(M:Rat):=Rat.intCast_lt_intCast.2 hM
  rw [hm] at h
  have z1:0<z↔(0:Rat)<(z:Rat):=(Rat.intCast_lt_intCast (a:=0) (b:=z)).symm
  have z2:z<0↔(z:Rat)<(0:Rat):=(Rat.intCast_lt_intCast (a:=z) (b:=0)).symm
  rw [z1,z2]
  generalize (M:Rat)=m at*
  generalize (z:Rat)=y at*
  refine ⟨fun he=>⟨fun k=> ?_,fun k=> ?_⟩,fun he=>⟨fun k=> ?_,fun k=> ?_⟩⟩
  · rcases lt_or_le 0 y with q | q
    · exact q
    · have h1 := Rat.mul_pos (show 0 < -g by grind) he
      have h2:=Rat.mul_nonneg (Rat.le_of_lt hM') (show 0≤ -y by grind)
      grind
  · rcases lt_or_le g 0 with q | q
    · exact q
    · have h1 := Rat.mul_nonneg q (Rat.le_of_lt he)
      have h2:=Rat.mul_pos hM' k
      grind
  · rcases lt_or_le y 0 with q | q
    · exact q
    · have h1 := Rat.mul_pos (show 0 < -g by grind) (show 0 < -e by grind)
      have h2:=Rat.mul_nonneg (Rat.le_of_lt hM') q
      grind
  · rcases lt_or_le g 0 with q | q
    · exact q
    · have h1 := Rat.mul_nonneg q (show 0 ≤ -e by grind)
      have h2:=Rat.mul_pos hM' (show 0< -y by grind)
      grind
theorem cr_sh (hM:0<M) {n:Nat} {l:List P2} (h:Sm n l) (hr:∀x∈l,inM M x) {q:P2} (hq:inM M q) {i:Nat} (hi:i<l.length):cr q (gt l i) (gt l (nx l.length i))=if (ofM M l).span i (sM M q) then (if (q.1:Rat)<(ofM M l).xi i ((sM M q:Int):Rat) then (ofM M l).dir i else 0) else 0:=by
  have hok:=ok_of M hM h hr
  have hi':i<(ofM M l).n:=hi
  have hne:=hok.ne hi'
  have hs:=side i hne q.1 (sM M q)
  have ha:inM M (gt l i):=hr _ (Ms.getD_mem (0,0) hi)
  have hb:inM M (gt l (nx l.length i)):=hr _ (Ms.getD_mem (0,0) (nx_lt hi))
  have hc:(((ofM M l).X (nx (ofM M l).n i) - (ofM M l).X i)*(sM M q - (ofM M l).Y i) - ((ofM M l).Y (nx (ofM M l).n i) - (ofM M l).Y i)*(q.1 - (ofM M l).X i):Int)=M*crs (gt l i) (gt l (nx l.length i)) q:=crs_sh M _ _ _
  rw [hc] at hs
  obtain ⟨l1,l2⟩:=lt_side M hM hs
  have hg:((q.1:Int):Rat) - (ofM M l).xi i ((sM M q:Int):Rat)<0↔(q.1:Rat)<(ofM M l).xi i ((sM M q:Int):Rat):=by constructor <;> intro _ <;> grind
  rw [hg] at l1 l2
  have hy:(ofM M l).y (nx (ofM M l).n i)≠(ofM M l).y i:=hne
  have hyy:sM M (gt l (nx l.length i))≠sM M (gt l i):=fun k=>hy (by unfold Pol.y;exact congrArg (fun z:Int=>(z:Rat)) k)
  have hcc:=cr_c q (gt l i) (gt l (nx l.length i))
  have hsp:(ofM M l).span i (sM M q)↔(sM M (gt l i)≤sM M q∧sM M q<sM M (gt l (nx l.length i))∨sM M (gt l (nx l.length i))≤sM M q∧sM M q<sM M (gt l i)):=Iff.rfl
  have u1:=up_iff M hM (q:=q) ha hb hq
  have u2:=up_iff M hM (q:=q) hb ha hq
  rw [crs_sw] at u2
  by_cases up:sM M (gt l i)<sM M (gt l (nx l.length i))
  · have hd : (ofM M l).dir i = 1 := Pol.dir_up up
    have k := l1 (by have : (ofM M l).y i < (ofM M l).y (nx (ofM M l).n i) := Rat.intCast_lt_intCast.2 up
                     grind)
    rw [hd]
    by_cases s:(ofM M l).span i (sM M q)
    · rw [if_pos s]
      rw [hsp] at s
      by_cases t:(q.1:Rat)<(ofM M l).xi i ((sM M q:Int):Rat)
      · rw [if_pos t]
        have:=k.1 t
        have:=(u1 this).2 (by omega)
        omega
      · rw [if_neg t]
        have:¬0<crs (gt l i) (gt l (nx l.length i)) q:=fun z=>t (k.2 z)
        rcases hcc with ⟨z,_⟩|⟨z,_⟩|⟨_,_,z⟩
        · exact absurd z.2.2 this
        · have:=(u2 (by omega)).1 ⟨z.1,z.2.1⟩;omega
        · exact z
    · rw [if_neg s]
      rw [hsp] at s
      rcases hcc with ⟨z,_⟩|⟨z,_⟩|⟨_,_,z⟩
      · have:=(u1 z.2.2).1 ⟨z.1,z.2.1⟩;omega
      · have:=(u2 (by omega)).1 ⟨z.1,z.2.1⟩;omega
      · exact z
  · have hd : (ofM M l).dir i = -1 := Pol.dir_dn up
    have k := l2 (by have : (ofM M l).y (nx (ofM M l).n i) < (ofM M l).y i := Rat.intCast_lt_intCast.2 (show sM M (gt l (nx l.length i)) < sM M (gt l i) by omega)
                     grind)
    rw [hd]
    by_cases s:(ofM M l).span i (sM M q)
    · rw [if_pos s]
      rw [hsp] at s
      by_cases t:(q.1:Rat)<(ofM M l).xi i ((sM M q:Int):Rat)
      · rw [if_pos t]
        have:=k.1 t
        have:=(u2 (by omega)).2 (by omega)
        omega
      · rw [if_neg t]
        have:¬crs (gt l i) (gt l (nx l.length i)) q<0:=fun z=>t (k.2 z)
        rcases hcc with ⟨z,_⟩|⟨z,_⟩|⟨_,_,z⟩
        · have:=(u1 z.2.2).1 ⟨z.1,z.2.1⟩;omega
        · exact absurd z.2.2 this
        · exact z
    · rw [if_neg s]
      rw [hsp] at s
      rcases hcc with ⟨z,_⟩|⟨z,_⟩|⟨_,_,z⟩
      · have:=(u1 z.2.2).1 ⟨z.1,z.2.1⟩;omega
      · have:=(u2 (by omega)).1 ⟨z.1,z.2.1⟩;omega
      · exact z
end
theorem wind_s {c:Pol} (h:c.Ok):∃s:Int,pm s∧∀(k:Int) (q:Rat),s*su (fun j=>if c.span j k then (if q<c.xi j (k:Rat) then c.dir j else 0) else 0) c.n=0∨s*su (fun j=>if c.span j k then (if q<c.xi j (k:Rat) then c.dir j else 0) else 0) c.n= -1:=by
  obtain ⟨s,hs,ha⟩:=h.alt
  refine ⟨s,hs,fun k q=> ?_⟩
  obtain ⟨M,hM,hS⟩:=h.srt k
  have e:su (fun j=>if c.span j k then (if q<c.xi j (k:Rat) then c.dir j else 0) else 0) c.n=s*W (c.xk k) (c.S k) (fun j=>decide (q<c.xi j (k:Rat))) (c.S k):=by
    rw [Pol.W_S,←su_mul]
    refine su_congr fun j hj=> ?_
    by_cases z:c.span j k
    · rw [if_pos z, if_pos z, Pol.rk_S, ha j k hj z]
      by_cases u:q<c.xi j (k:Rat)
      · rw [if_pos u,if_pos (by simpa using u)]
      · rw [if_neg u,if_neg (by simpa using u)];omega
    · rw [if_neg z,if_neg z];omega
  have hw:=W_up (x:=c.xk k) (U:=fun j=>decide (q<c.xi j (k:Rat))) hS fun a ha b hb hab hu=>by
    obtain ⟨a1,a2⟩:=Pol.mem_S.1 (hM.mem_iff.1 ha)
    obtain ⟨b1,b2⟩:=Pol.mem_S.1 (hM.mem_iff.1 hb)
    have hne:b≠a:=fun z=>by subst z;grind
    simp only [decide_eq_true_eq] at hu ⊢
    unfold Pol.xk at hab
    rcases lt_or_le (c.xi b (k:Rat)) (c.xi a (k:Rat)) with z|z
    · have := (h.cst a1 b1 hne (Pol.span_c0 a2) (Pol.os_cs (Pol.span_os a2)) (Pol.span_c0 b2) (Pol.os_cs (Pol.span_os b2)) (by grind) (by grind)).1 z
      grind
    · grind
  have hev:=h.even k
  rw [← hM.length_eq] at hev
  rw [if_neg (by omega)] at hw
  rw [e,W_perm hM.symm,W_R hM.symm]
  unfold pm at hs
  generalize W (c.xk k) M (fun j=>decide (q<c.xi j (k:Rat))) M=w at hw
  rcases hs with rfl|rfl <;> omega
theorem bnd1 (l:List P2):∃N:Int,0≤N∧∀x∈l,-N≤x.1∧x.1≤N:=by
  induction l with
  |nil=>exact ⟨0,by omega,fun x h=>by cases h⟩
  |cons a l ih=>
    obtain ⟨N,h0,h⟩:=ih
    refine ⟨N+(if a.1<0 then -a.1 else a.1),by split <;> omega,fun x hx=> ?_⟩
    rcases List.mem_cons.1 hx with rfl|hx
    · split <;> omega
    · have := h x hx
      split <;> omega
theorem wn_two {n:Nat} {l:List P2} (h:Sm n l) (q1 q2:P2):(∃s:Int,(s=1∨s= -1)∧(s*wn n l q1 n=0∨s*wn n l q1 n=1)∧(s*wn n l q2 n=0∨s*wn n l q2 n=1)):=by
  obtain ⟨N,h0,hN⟩:=bnd1 (q1 :: q2 :: l)
  have hM:0<4*N+1:=by omega
  have hr:∀x∈l,inM (4*N+1) x:=fun x hx=>by have:=hN x (by simp [hx]);unfold inM;omega
  have hl:=h.len
  obtain ⟨s,hs,hw⟩:=wind_s (ok_of _ hM h hr)
  have key:∀q:P2,q=q1∨q=q2→s*wn n l q n=0∨s*wn n l q n= -1:=fun q hq=>by
    have hq':inM (4*N+1) q:=by have:=hN q (by rcases hq with rfl|rfl <;> simp);unfold inM;omega
    have e:wn n l q n=su (fun j=>if (ofM (4*N+1) l).span j (sM (4*N+1) q) then (if (q.1:Rat)<(ofM (4*N+1) l).xi j ((sM (4*N+1) q:Int):Rat) then (ofM (4*N+1) l).dir j else 0) else 0) (ofM (4*N+1) l).n:=by
      show su _ n=su _ l.length
      rw [hl]
      refine su_congr fun i hi=> ?_
      rw [← cr_sh _ hM h hr hq' (by omega),hl,nx_md hi]
    rw [e];exact hw _ _
  have k1:=key q1 (.inl rfl)
  have k2:=key q2 (.inr rfl)
  refine ⟨-s,by unfold pm at hs;omega,?_,?_⟩
  · rw [Int.neg_mul];omega
  · rw [Int.neg_mul];omega
end Go.Proofs.YtjcpbhlijoigfaaGreat.Er
namespace Go.Proofs.YtjcpbhlijoigfaaGreat.Er
open Pg Sw
set_option linter.unusedVariables false
structure SC (p:List P2):Prop where
  n3:3≤p.length
  nd:p.Nodup
  v:∀e∈cyc p,∀x∈p,x≠e.1→x≠e.2→¬onS e.1 e.2 x
  e:∀e∈cyc p,∀f∈cyc p,e.1≠f.1→e.1≠f.2→e.2≠f.1→e.2≠f.2→¬mt0 e.1 e.2 f.1 f.2
theorem SC.rot {X Y:List P2} (h:SC (X++Y)):SC (Y++X):=by
  have hp:=cyc_rot X Y
  have hm:∀x,x∈Y++X→x∈X++Y:=fun x hx=>List.perm_append_comm.mem_iff.1 hx
  refine ⟨?_,nd_rot h.nd,fun e he x hx=>h.v e (hp.mem_iff.2 he) x (hm x hx),fun e he f hf=>h.e e (hp.mem_iff.2 he) f (hp.mem_iff.2 hf)⟩
  have:=h.n3
  rw [List.length_append] at this ⊢;omega
theorem cyc_getD {α:Type} {l:List α} {n:Nat} (d:α) (hn:l.length=n):cyc l=(List.range n).map (fun i=>(l.getD i d,l.getD ((i+1)%n) d)):=by
  refine List.ext_getElem (by rw [cyc_len,List.length_map,List.length_range,hn]) fun i h1 h2=> ?_
  rw [cyc_len] at h1
  rw [List.getElem_map,List.getElem_range]
  have hc:i<(cyc l).length:=by rw [cyc_len];exact h1
  refine Prod.ext ?_ ?_
  · have e : ((cyc l).map (·.1))[i]'(by rw [cyc_fst]; exact h1) = l[i] := by simp only [cyc_fst]
    rw [List.getElem_map] at e
    rw [e]
    show _=l.getD i d
    rw [List.getD_eq_getElem?_getD,List.getElem?_eq_getElem h1];rfl
  · cases l with
    |nil=>exact absurd h1 (Nat.not_lt_zero _)
    |cons a r=>
      have e:((cyc (a :: r)).map (·.2))[i]'(by rw [List.length_map];exact hc)=(r++[a])[i]'(by simpa using h1):=by simp only [cyc_snd]
      rw [List.getElem_map] at e
      rw [e]
      show _=(a :: r).getD ((i+1)%n) d
      have hm:=md_c (x:=i+1) (m:=n) (by simp at hn h1;omega)
      rw [List.getElem_append]
      simp only [List.length_cons] at h1 hn
      split
      · rename_i k
        rw [show (i+1)%n=i+1 by omega]
        rw [List.getD_eq_getElem?_getD,List.getElem?_cons_succ,List.getElem?_eq_getElem k];rfl
      · rename_i k
        rw [show (i+1)%n=0 by omega]
        simp
theorem cyc_get {l:List P2} {n:Nat} (hn:l.length=n):cyc l=(List.range n).map (fun i=>(gt l i,gt l ((i+1)%n))):=cyc_getD (0,0) hn
theorem mem_cyc {l:List P2} {n:Nat} (hn:l.length=n) {e:P2×P2}:e∈cyc l↔∃i,i<n∧e=(gt l i,gt l ((i+1)%n)):=by
  rw [cyc_get hn,List.mem_map]
  constructor
  · rintro ⟨i, hi, rfl⟩
    exact ⟨i,List.mem_range.1 hi,rfl⟩
  · rintro ⟨i, hi, rfl⟩
    exact ⟨i,List.mem_range.2 hi,rfl⟩
theorem mem_gt {l:List P2} {x:P2} (h:x∈l):∃i,i<l.length∧x=gt l i:=by
  obtain ⟨i,hi,rfl⟩:=List.getElem_of_mem h
  refine ⟨i,hi,?_⟩
  unfold gt
  rw [List.getD_eq_getElem?_getD,List.getElem?_eq_getElem hi];rfl
theorem SC.of {n:Nat} {l:List P2} (h:Sm n l):SC l:=by
  have hl:=h.len
  have h3:=h.n3
  refine ⟨by omega,h.nd,fun e he x hx x1 x2 ho=> ?_,fun e he f hf a1 a2 a3 a4 hm=> ?_⟩
  · obtain ⟨i, hi, rfl⟩ := (mem_cyc hl).1 he
    obtain ⟨k,hk,rfl⟩:=mem_gt hx
    dsimp only at x1 x2 ho
    have k1:k≠i:=fun z=>x1 (by rw [z])
    have k2:k≠(i+1)%n:=fun z=>x2 (by rw [z])
    have hmk:=md_c (x:=k+1) (m:=n) (by omega)
    have hmk2:=md_c (x:=k+2) (m:=n) (by omega)
    have hmi:=md_c (x:=i+1) (m:=n) (by omega)
    by_cases z:(k+1)%n=i
    · refine h.a k (by omega) (.inr ?_)
      rw [z,show (k+2)%n=(i+1)%n by omega];exact ho
    · exact h.b i k hi (by omega) (fun q=>k1 q.symm) (fun q=>k2 q.symm) z (.inr (.inl ho))
  · obtain ⟨i, hi, rfl⟩ := (mem_cyc hl).1 he
    obtain ⟨k,hk,rfl⟩:=(mem_cyc hl).1 hf
    exact h.b i k hi hk (fun z=>a1 (by rw [z])) (fun z=>a3 (by rw [z])) (fun z=>a2 (by rw [z])) (.inl hm)
theorem SC.sm {n:Nat} {l:List P2} (h:SC l) (hn:l.length=n) (h64:n≤64):Sm n l:=by
  have h3:=h.n3
  have inj:∀i j,i<n→j<n→gt l i=gt l j→i=j:=fun i j hi hj e=>by
    unfold gt at e
    rw [List.getD_eq_getElem?_getD,List.getD_eq_getElem?_getD,List.getElem?_eq_getElem (by omega),List.getElem?_eq_getElem (by omega)] at e
    have he2:l[i]'(by omega)=l[j]'(by omega):=e
    have hp:=List.pairwise_iff_getElem.1 h.nd
    rcases Nat.lt_trichotomy i j with k|k|k
    · exact absurd he2 (hp _ _ (by omega) (by omega) k)
    · exact k
    · exact absurd he2.symm (hp _ _ (by omega) (by omega) k)
  have ce:∀i,i<n→(gt l i,gt l ((i+1)%n))∈cyc l:=fun i hi=>(mem_cyc hn).2 ⟨i,hi,rfl⟩
  have me:∀i,i<n→gt l i∈l:=fun i hi=>Ms.getD_mem (0,0) (by omega)
  have md:∀i,i%n<n:=fun i=>Nat.mod_lt _ (by omega)
  have on:∀i k,i<n→k<n→k≠i→k≠(i+1)%n→¬onS (gt l i) (gt l ((i+1)%n)) (gt l k):=fun i k hi hk a b=>h.v _ (ce i hi) _ (me k hk) (fun z=>a (inj _ _ hk hi z)) (fun z=>b (inj _ _ hk (md _) z))
  refine ⟨hn,by omega,h64,h.nd,fun i hi ha=> ?_,fun i j hi hj n1 n2 n3 hm=> ?_⟩
  · have m1 := md_c (x := i + 1) (m := n) (by omega)
    have m2:=md_c (x:=i+2) (m:=n) (by omega)
    have m3:=md_c (x:=(i+1)%n+1) (m:=n) (by omega)
    rcases ha with ha|ha
    · exact on i ((i+2)%n) hi (md _) (by omega) (by omega) ha
    · refine on ((i + 1) % n) i (md _) hi (by omega) (by omega) ?_
      rw [show ((i+1)%n+1)%n=(i+2)%n by omega];exact ha
  · have m1 := md_c (x := i + 1) (m := n) (by omega)
    have m2:=md_c (x:=j+1) (m:=n) (by omega)
    rcases hm with hm|hm|hm|hm|hm
    · exact h.e _ (ce i hi) _ (ce j hj) (fun z=>n1 (inj _ _ hi hj z)) (fun z=>n3 (inj _ _ hi (md _) z).symm) (fun z=>n2 (inj _ _ (md _) hj z)) (fun z=>n1 (by have:=inj _ _ (md _) (md _) z;omega)) hm
    · exact on i j hi hj (fun z=>n1 z.symm) (fun z=>n2 z.symm) hm
    · exact on i ((j+1)%n) hi (md _) n3 (by omega) hm
    · exact on j i hj hi n1 (fun z=>n3 z.symm) hm
    · exact on j ((i+1)%n) hj (md _) n2 (by omega) hm
theorem crs_cyc3 (a b c:P2):crs a b c=crs b c a∧crs a b c=crs c a b:=by unfold crs;constructor <;> grind
theorem crs_sum (u v w x:P2):crs v w x+crs u v x+crs w u x=crs u v w:=by unfold crs;grind
theorem sgm {z w:Int}:z.sign*w.sign<0↔(z<0∧0<w∨0<z∧w<0):=by
  rcases Int.lt_trichotomy z 0 with a|a|a <;> rcases Int.lt_trichotomy w 0 with b|b|b <;> simp [Int.sign_eq_neg_one_of_neg,Int.sign_eq_one_of_pos,a,b] <;> omega
theorem mt0_sw {a b c d:P2} (h:mt0 a b c d):mt0 a b d c:=by
  unfold mt0 at*
  rw [sgm,sgm] at h ⊢
  have h1:=crs_sw c d a
  have h2:=crs_sw c d b
  omega
theorem mt0_sl {a b c d:P2} (h:mt0 a b c d):mt0 b a c d:=by
  unfold mt0 at*
  rw [sgm,sgm] at h ⊢
  have h1:=crs_sw a b c
  have h2:=crs_sw a b d
  omega
theorem mt0_ex {a b c d:P2} (h:mt0 a b c d):mt0 c d a b:=⟨h.2,h.1⟩
theorem onS_sw {a b p:P2} (h:onS a b p):onS b a p:=by
  refine ⟨by rw [crs_sw];have:=h.1;omega,?_⟩
  have:=h.2
  unfold betw at *;omega
theorem btc {a c e f:Int} (ha:a<0) (hc:0<c) (h:c*e=a*f):e≤0∧0≤f∨0≤e∧f≤0:=by
  rcases Int.lt_trichotomy e 0 with k|k|k
  · refine .inl ⟨by omega, Int.not_lt.1 fun z => ?_⟩
    have h1:=Int.mul_pos (show 0< -a by omega) (show 0< -f by omega)
    have h2:=Int.mul_pos hc (show 0< -e by omega)
    grind
  · subst k
    rw [Int.mul_zero] at h
    rcases Int.mul_eq_zero.1 h.symm with z|z <;> omega
  · refine .inr ⟨by omega, Int.not_lt.1 fun z => ?_⟩
    have h1:=Int.mul_pos (show 0< -a by omega) z
    have h2:=Int.mul_pos hc k
    grind
theorem on_line {m v x y:P2} (hV:crs x y v=0) (ha:crs v m x<0) (hc:0<crs v m y):onS x y v:=by
  have e1:crs v m y*(x.1 - v.1)=crs v m x*(y.1 - v.1):=by
    have:crs v m y*(x.1 - v.1) - crs v m x*(y.1 - v.1)=(m.1 - v.1)*crs x y v:=by unfold crs;grind
    rw [hV,Int.mul_zero] at this;omega
  have e2:crs v m y*(x.2 - v.2)=crs v m x*(y.2 - v.2):=by
    have:crs v m y*(x.2 - v.2) - crs v m x*(y.2 - v.2)=(m.2 - v.2)*crs x y v:=by unfold crs;grind
    rw [hV,Int.mul_zero] at this;omega
  have b1:=btc ha hc e1
  have b2:=btc ha hc e2
  exact ⟨hV,by unfold betw;omega⟩
theorem inn {a b c d D X Y:Int} (hX:0<X) (hY:0<Y) (h1:0<Y*a+X*c) (h2:0<Y*b+X*d) (h3:a+b≤c+d) (h4:Y*(a+b)+X*(c+d)≤(X+Y)*D) (h34:a+b<c+d∨Y*(a+b)+X*(c+d)<(X+Y)*D) (ha:a<0):0<c∧((0<b*c - a*d∧b*c - a*d<D*(c - a))∨b*c - a*d=0∨(b*c - a*d<0∧b<0∧0<d∧0<b*c - a*d+D*(d - b))):=by
  have hXY:0<X+Y:=by omega
  have hc:0<c:=Int.not_le.1 fun z=>by
    have:=Int.mul_nonneg (show 0≤Y by omega) (show 0≤ -a by omega)
    have:=Int.mul_nonneg (show 0≤X by omega) (show 0≤ -c by omega)
    grind
  have hca:0<c - a:=by omega
  have strict:∀{p s:Int},0<p→0<s→(X+Y)*p≤s*(Y*(a+b)+X*(c+d)) - (0:Int)→((X+Y)*p<s*(Y*(a+b)+X*(c+d))∨Y*(a+b)+X*(c+d)<(X+Y)*D)→p<D*s:=fun {p s} hp hs k1 k2=>by
    refine Int.not_le.1 fun z=> ?_
    have q1:=Int.mul_nonneg (show 0≤X+Y by omega) (show 0≤p - D*s by omega)
    rcases k2 with k2|k2
    · have q2 := Int.mul_nonneg (show 0 ≤ s by omega) (show 0 ≤ (X + Y) * D - (Y * (a + b) + X * (c + d)) by omega)
      grind
    · have q2 := Int.mul_pos hs (show 0 < (X + Y) * D - (Y * (a + b) + X * (c + d)) by omega)
      grind
  refine ⟨hc,?_⟩
  have i1:(c - a)*(Y*(a+b)+X*(c+d)) - (X+Y)*(b*c - a*d)=(Y*a+X*c)*(c+d - a - b):=by grind
  have i2:(c - a)*(Y*b+X*d)=(X+Y)*(b*c - a*d)+(Y*a+X*c)*(d - b):=by grind
  have i3:(d - b)*(Y*(a+b)+X*(c+d)) - (X+Y)*(a*d - b*c)=(Y*b+X*d)*(c+d - a - b):=by grind
  rcases Int.lt_trichotomy (b*c - a*d) 0 with k|k|k
  · refine .inr (.inr ⟨k, ?_⟩)
    have p1:=Int.mul_pos hca h2
    have p2:=Int.mul_pos hXY (show 0< -(b*c - a*d) by omega)
    have hdb:0<d - b:=Int.not_le.1 fun z=>by
      have:=Int.mul_nonneg (Int.le_of_lt h1) (show 0≤ -(d - b) by omega)
      grind
    have hb:b<0:=Int.not_le.1 fun z=>by
      have q1:=Int.mul_nonneg z (Int.le_of_lt hc)
      have q2:=Int.mul_nonneg (show 0≤ -a by omega) (show 0≤d by omega)
      grind
    have hd:0<d:=Int.not_le.1 fun z=>by
      have q1:=Int.mul_pos hY (show 0< -b by omega)
      have q2:=Int.mul_nonneg (show 0≤X by omega) (show 0≤ -d by omega)
      grind
    refine ⟨hb,hd,?_⟩
    have:=strict (p:=a*d - b*c) (s:=d - b) (by omega) hdb (by
      have:=Int.mul_nonneg (Int.le_of_lt h2) (show 0≤c+d - a - b by omega);omega) (by
      rcases h34 with z|z
      · left
        have:=Int.mul_pos h2 (show 0<c+d - a - b by omega);omega
      · exact .inr z)
    omega
  · exact .inr (.inl k)
  · refine .inl ⟨k,strict k hca (by
      have:=Int.mul_nonneg (Int.le_of_lt h1) (show 0≤c+d - a - b by omega);omega) (by
      rcases h34 with z|z
      · left
        have:=Int.mul_pos h1 (show 0<c+d - a - b by omega);omega
      · exact .inr z)⟩
theorem dsg {D V z:Int} (hD:0<D) (h:D*V=z):(0<z→0<V)∧(z<0→V<0)∧(z=0→V=0):=by
  refine ⟨fun k=>Int.not_le.1 fun q=> ?_,fun k=>Int.not_le.1 fun q=> ?_,fun k=> ?_⟩
  · have:=Int.mul_nonneg (show 0≤D by omega) (show 0≤ -V by omega);grind
  · have:=Int.mul_nonneg (show 0≤D by omega) q;omega
  · rcases Int.mul_eq_zero.1 (h.trans k) with q | q
    · omega
    · exact q
theorem dlt {D V z:Int} (hD:0<D) (h:D*V<D*z):V<z:=Int.lt_of_mul_lt_mul_left h (by omega)
theorem meets {u v w x y:P2} {X Y:Int} (hD:0<crs u v w) (hX:0<X) (hY:0<Y) (h1:0<Y*crs v w x+X*crs v w y) (h2:0<Y*crs u v x+X*crs u v y) (h3:crs w u y≤crs w u x) (h4:0≤Y*crs w u x+X*crs w u y) (h34:crs w u y<crs w u x∨0<Y*crs w u x+X*crs w u y) (hx:crs v w x<0∨crs u v x<0):onS x y v∨mt0 u v x y∨mt0 v w x y:=by
  have s1:=crs_sum u v w x
  have s2:=crs_sum u v w y
  have eV:crs u v w*crs x y v=crs u v x*crs v w y - crs v w x*crs u v y:=by unfold crs;grind
  have eu:crs x y u=crs x y v+(crs u v y - crs u v x):=by unfold crs;grind
  have ew:crs x y w=crs x y v+(crs v w x - crs v w y):=by unfold crs;grind
  have e4:Y*(crs v w x+crs u v x)+X*(crs v w y+crs u v y)=(X+Y)*crs u v w - (Y*crs w u x+X*crs w u y):=by
    rw [show crs v w x+crs u v x=crs u v w - crs w u x by omega,show crs v w y+crs u v y=crs u v w - crs w u y by omega];grind
  obtain ⟨d1,d2,d3⟩:=dsg hD eV
  unfold mt0
  rw [sgm,sgm,sgm,sgm]
  generalize crs u v w=D at*
  rcases hx with ha|hb
  · obtain ⟨hc, k⟩ := inn (a := crs v w x) (b := crs u v x) (c := crs v w y) (d := crs u v y) (D := D) hX hY h1 h2 (by omega) (by omega) (by omega) ha
    rcases k with ⟨k1,k2⟩|k|⟨k1,k2,k3,k4⟩
    · refine .inr (.inr ⟨.inl ⟨ha, hc⟩, ?_⟩)
      have:=d1 k1
      have:crs x y v<crs v w y - crs v w x:=dlt hD (by rw [eV];exact k2)
      omega
    · exact .inl (on_line (d3 k) ha hc)
    · refine .inr (.inl ⟨.inl ⟨k2, k3⟩, ?_⟩)
      have:=d2 k1
      have: -(crs u v y - crs u v x)<crs x y v:=dlt hD (by rw [eV];grind)
      omega
  · obtain ⟨hc, k⟩ := inn (a := crs u v x) (b := crs v w x) (c := crs u v y) (d := crs v w y) (D := D) hX hY h2 h1 (by omega) (by rw [Int.add_comm (crs u v x), Int.add_comm (crs u v y)]; omega) (by rw [Int.add_comm (crs u v x), Int.add_comm (crs u v y)]; omega) hb
    have eN:crs v w x*crs u v y - crs u v x*crs v w y= - (crs u v x*crs v w y - crs v w x*crs u v y):=by grind
    rw [eN] at k
    rcases k with ⟨k1,k2⟩|k|⟨k1,k2,k3,k4⟩
    · refine .inr (.inl ⟨.inl ⟨hb, hc⟩, ?_⟩)
      have:=d2 (by omega)
      have: -(crs u v y - crs u v x)<crs x y v:=dlt hD (by rw [eV];grind)
      omega
    · refine .inl ?_
      have hV:=d3 (by omega)
      have a1:=crs_sw u v x
      have a2:=crs_sw u v y
      refine onS_sw (on_line (m:=u) (v:=v) (x:=y) (y:=x) (by rw [crs_sw];omega) (by omega) (by omega))
    · refine .inr (.inr ⟨.inl ⟨k2, k3⟩, ?_⟩)
      have:=d1 (by omega)
      have:crs x y v<crs v w y - crs v w x:=dlt hD (by rw [eV];grind)
      omega
end Go.Proofs.YtjcpbhlijoigfaaGreat.Er
namespace Go.Proofs.YtjcpbhlijoigfaaGreat.Sw
open Pg
set_option linter.unusedVariables false
def t3 (q a b c:P2):Int:=cr q a b+cr q b c+cr q c a
theorem t3_rot (q a b c:P2):t3 q a b c=t3 q b c a:=by unfold t3;omega
theorem t3_sw (q a b c:P2):t3 q b a c= - t3 q a b c:=by
  unfold t3
  have h1:=cr_sw q a b
  have h2:=cr_sw q b c
  have h3:=cr_sw q c a
  omega
theorem by2 (a b c q:P2):crs b c q*(q.2 - a.2)+crs c a q*(q.2 - b.2)+crs a b q*(q.2 - c.2)=0:=by unfold crs;grind
theorem by1 (a b c q:P2):crs b c q*(q.1 - a.1)+crs c a q*(q.1 - b.1)+crs a b q*(q.1 - c.1)=0:=by unfold crs;grind
theorem byS (a b c q:P2):crs a b q+crs b c q+crs c a q=crs a b c:=by unfold crs;grind
structure Tq (q a b c:P2):Prop where
  r:t3 q a b c=0∨t3 q a b c=1
  i:0<crs a b q→0<crs b c q→0<crs c a q→t3 q a b c=1
  o:t3 q a b c=1→0≤crs a b q∧0≤crs b c q∧0≤crs c a q
theorem Tq.rot {q a b c:P2} (h:Tq q b c a):Tq q a b c:=
  ⟨by rw [t3_rot];exact h.r,fun x y z=>by rw [t3_rot];exact h.i y z x,fun k=>by rw [t3_rot] at k;have:=h.o k;exact ⟨this.2.2,this.1,this.2.1⟩⟩
theorem mnn {x y:Int} (hx:0≤x) (hy:0≤y):0≤x*y:=Int.mul_nonneg hx hy
theorem tA {q a b c:P2} (hS:0<crs a b c) (ha:a.2≤q.2) (hb:q.2<b.2) (hc:q.2<c.2):Tq q a b c:=by
  suffices key:(t3 q a b c=0∨t3 q a b c=1)∧(0<crs a b q→0<crs b c q→0<crs c a q→t3 q a b c=1)∧(t3 q a b c=1→0≤crs a b q∧0≤crs b c q∧0≤crs c a q) from ⟨key.1,key.2.1,key.2.2⟩
  have e2:=by2 a b c q
  have eS:=byS a b c q
  have c1:=cr_c q a b
  have c2:=cr_c q b c
  have c3:=cr_c q c a
  unfold t3 at*
  generalize crs a b q=u at*
  generalize crs b c q=v at*
  generalize crs c a q=w at*
  have k1:¬(u≤0∧w<0):=fun ⟨x,y⟩=>by
    have p3:=mnn (show 0≤ -u by omega) (show 0≤c.2 - q.2 by omega)
    have p2:=Int.mul_pos (show 0< -w by omega) (show 0<b.2 - q.2 by omega)
    have:v<0:=Int.not_le.1 fun z=>by
      have p1:=mnn z (show 0≤q.2 - a.2 by omega)
      grind
    omega
  have k2:0<u→0≤w→0≤v:=fun x y=>Int.not_lt.1 fun z=>by
    have p1:=mnn (show 0≤ -v by omega) (show 0≤q.2 - a.2 by omega)
    have p3:=Int.mul_pos x (show 0<c.2 - q.2 by omega)
    have p2:=mnn y (show 0≤b.2 - q.2 by omega)
    grind
  clear e2
  generalize cr q a b=r1 at*
  generalize cr q b c=r2 at*
  generalize cr q c a=r3 at*
  refine ⟨?_,?_,?_⟩
  · omega
  · intro x y z;omega
  · intro x
    have:=k2
    by_cases z1:0≤w
    · refine ⟨?_,?_,z1⟩ <;> first|omega|(have:=k2 (by omega) z1;omega)
    · omega
theorem tB {q a b c:P2} (hS:0<crs a b c) (ha:a.2≤q.2) (hb:b.2≤q.2) (hc:q.2<c.2):Tq q a b c:=by
  suffices key:(t3 q a b c=0∨t3 q a b c=1)∧(0<crs a b q→0<crs b c q→0<crs c a q→t3 q a b c=1)∧(t3 q a b c=1→0≤crs a b q∧0≤crs b c q∧0≤crs c a q) from ⟨key.1,key.2.1,key.2.2⟩
  have e2:=by2 a b c q
  have eS:=byS a b c q
  have c1:=cr_c q a b
  have c2:=cr_c q b c
  have c3:=cr_c q c a
  unfold t3 at*
  generalize crs a b q=u at*
  generalize crs b c q=v at*
  generalize crs c a q=w at*
  have k1:¬(v≤0∧w<0):=fun ⟨x,y⟩=>by
    have p1:=mnn (show 0≤ -v by omega) (show 0≤q.2 - a.2 by omega)
    have p2:=mnn (show 0≤ -w by omega) (show 0≤q.2 - b.2 by omega)
    have:u≤0:=Int.not_lt.1 fun z=>by
      have p3:=Int.mul_pos z (show 0<c.2 - q.2 by omega)
      grind
    omega
  have k2:0<v→0≤w→0≤u:=fun x y=>Int.not_lt.1 fun z=>by
    have p3:=Int.mul_pos (show 0< -u by omega) (show 0<c.2 - q.2 by omega)
    have p1:=mnn (show 0≤v by omega) (show 0≤q.2 - a.2 by omega)
    have p2:=mnn y (show 0≤q.2 - b.2 by omega)
    grind
  clear e2
  generalize cr q a b=r1 at*
  generalize cr q b c=r2 at*
  generalize cr q c a=r3 at*
  refine ⟨?_,?_,?_⟩
  · omega
  · intro x y z;omega
  · intro x
    have:=k2
    by_cases z1:0≤w
    · refine ⟨?_,?_,z1⟩ <;> first|omega|(have:=k2 (by omega) z1;omega)
    · omega
theorem t0 {q a b c:P2} (hS:0<crs a b c) (h:q.2<a.2∧q.2<b.2∧q.2<c.2∨a.2≤q.2∧b.2≤q.2∧c.2≤q.2):Tq q a b c:=by
  have e2:=by2 a b c q
  have c1:=cr_c q a b
  have c2:=cr_c q b c
  have c3:=cr_c q c a
  have hz:t3 q a b c=0:=by unfold t3;omega
  refine ⟨.inl hz,fun u v w=> ?_,fun k=>by omega⟩
  exfalso
  rcases h with ⟨x,y,z⟩|⟨x,y,z⟩
  · have p1 := Int.mul_pos v (show 0 < a.2 - q.2 by omega)
    have p2:=Int.mul_pos w (show 0<b.2 - q.2 by omega)
    have p3:=Int.mul_pos u (show 0<c.2 - q.2 by omega)
    grind
  · have p1 := mnn (Int.le_of_lt v) (show 0 ≤ q.2 - a.2 by omega)
    have p2:=mnn (Int.le_of_lt w) (show 0≤q.2 - b.2 by omega)
    have p3:=mnn (Int.le_of_lt u) (show 0≤q.2 - c.2 by omega)
    have z1:crs b c q*(q.2 - a.2)=0:=by omega
    have z2:crs c a q*(q.2 - b.2)=0:=by omega
    have z3:crs a b q*(q.2 - c.2)=0:=by omega
    have w1:q.2 - a.2=0:=by rcases Int.mul_eq_zero.1 z1 with k|k;omega;exact k
    have w2:q.2 - b.2=0:=by rcases Int.mul_eq_zero.1 z2 with k|k;omega;exact k
    have w3:q.2 - c.2=0:=by rcases Int.mul_eq_zero.1 z3 with k|k;omega;exact k
    unfold crs at hS
    rw [show c.2 - a.2=0 by omega,show b.2 - a.2=0 by omega,Int.mul_zero,Int.zero_mul] at hS
    omega
theorem tri {q a b c:P2} (hS:0<crs a b c):Tq q a b c:=by
  have h1:0<crs b c a:=by rw [← crs_cyc];exact hS
  have h2:0<crs c a b:=by rw [← crs_cyc];exact h1
  by_cases A:a.2≤q.2 <;> by_cases B:b.2≤q.2 <;> by_cases C:c.2≤q.2
  · exact t0 hS (.inr ⟨A,B,C⟩)
  · exact tB hS A B (by omega)
  · exact (tB h2 C A (by omega)).rot.rot
  · exact tA hS A (by omega) (by omega)
  · exact (tB h1 B C (by omega)).rot
  · exact (tA h1 B (by omega) (by omega)).rot
  · exact (tA h2 C (by omega) (by omega)).rot.rot
  · exact t0 hS (.inl ⟨by omega,by omega,by omega⟩)
theorem bt2 {u v x D d:Int} (h0:0≤d) (h1:d≤D) (hD:0<D) (h:(x - u)*D=d*(v - u)):min u v≤x∧x≤max u v:=by
  rcases Int.le_total 0 (v - u) with k|k
  · have p1 := mnn h0 k
    have p2:=mnn (show 0≤D - d by omega) k
    have a1:0≤x - u:=Int.not_lt.1 fun z=>by
      have:=Int.mul_pos (show 0< -(x - u) by omega) hD
      grind
    have a2:x - u≤v - u:=Int.not_lt.1 fun z=>by
      have:=Int.mul_pos (show 0<(x - u) - (v - u) by omega) hD
      grind
    omega
  · have p1 := mnn h0 (show 0 ≤ -(v - u) by omega)
    have p2:=mnn (show 0≤D - d by omega) (show 0≤ -(v - u) by omega)
    have a1:x - u≤0:=Int.not_lt.1 fun z=>by
      have:=Int.mul_pos (show 0<x - u by omega) hD
      grind
    have a2:v - u≤x - u:=Int.not_lt.1 fun z=>by
      have:=Int.mul_pos (show 0<(v - u) - (x - u) by omega) hD
      grind
    omega
theorem on_of {q a b c:P2} (hS:0<crs a b c) (hu:crs a b q=0) (hv:0≤crs b c q) (hw:0≤crs c a q):onS a b q:=by
  have e1:=by1 a b c q
  have e2:=by2 a b c q
  have eS:=byS a b c q
  rw [hu] at e1 e2 eS
  refine ⟨hu,?_⟩
  generalize crs b c q=v at*
  generalize crs c a q=w at*
  generalize crs a b c=S at*
  have b1:=bt2 (u:=a.1) (v:=b.1) (x:=q.1) (D:=v+w) (d:=w) hw (by omega) (by omega) (by grind)
  have b2:=bt2 (u:=a.2) (v:=b.2) (x:=q.2) (D:=v+w) (d:=w) hw (by omega) (by omega) (by grind)
  exact ⟨b1.1,b1.2,b2.1,b2.2⟩
def inTr (a b c q:P2):Prop:=(0≤(crs a b q).sign∧0≤(crs b c q).sign∧0≤(crs c a q).sign)∨((crs a b q).sign≤0∧(crs b c q).sign≤0∧(crs c a q).sign≤0)
instance (a b c q:P2):Decidable (inTr a b c q):=inferInstanceAs (Decidable (_∨_))
def onE (a b c q:P2):Prop:=onS a b q∨onS b c q∨onS c a q
instance (a b c q:P2):Decidable (onE a b c q):=inferInstanceAs (Decidable (_∨_))
theorem sgn_c (z:Int):z<0∧z.sign= -1∨z=0∧z.sign=0∨0<z∧z.sign=1:=by
  rcases Int.lt_trichotomy z 0 with h|h|h
  · exact .inl ⟨h,Int.sign_eq_neg_one_of_neg h⟩
  · exact .inr (.inl ⟨h,by rw [h];rfl⟩)
  · exact .inr (.inr ⟨h,Int.sign_eq_one_of_pos h⟩)
end Go.Proofs.YtjcpbhlijoigfaaGreat.Sw
namespace Go.Proofs.YtjcpbhlijoigfaaGreat.Er
open Pg Sw
set_option linter.unusedVariables false
theorem comb_g (v q x y:P2) (f1 f2:P2):crs v q y*crs f1 f2 x - crs v q x*crs f1 f2 y=crs x y v*crs f1 f2 q - crs x y q*crs f1 f2 v:=by unfold crs;grind
theorem meet_d {u v w q x y:P2} (hD:0<crs u v w) (ha:0<crs v w q) (hb:0<crs u v q) (hc:0≤crs w u q) (hx:0≤crs v w x→0≤crs u v x→crs w u x≤crs w u q) (hy:0≤crs v w y→0≤crs u v y→crs w u y≤crs w u q) (hm:mt0 v q x y):onS x y v∨mt0 u v x y∨mt0 v w x y:=by
  have key:∀{x y:P2},(0≤crs v w x→0≤crs u v x→crs w u x≤crs w u q)→(0≤crs v w y→0≤crs u v y→crs w u y≤crs w u q)→0<crs v q x→crs v q y<0→crs x y v<0→0<crs x y q→onS x y v∨mt0 u v x y∨mt0 v w x y:=fun {x y} hx hy k1 k2 k3 k4=>by
    have g1:=comb_g v q x y v w
    have g2:=comb_g v q x y u v
    have g3:=comb_g v q x y w u
    have z1:crs v w v=0:=by unfold crs;grind
    have z2:crs u v v=0:=by unfold crs;grind
    have z3:crs w u v=crs u v w:=by unfold crs;grind
    rw [z1,Int.mul_zero,Int.sub_zero] at g1
    rw [z2,Int.mul_zero,Int.sub_zero] at g2
    rw [z3] at g3
    have sq:=crs_sum u v w q
    have sx:=crs_sum u v w x
    have sy:=crs_sum u v w y
    have eQ:crs x y q - crs x y v=crs v q x - crs v q y:=by unfold crs;grind
    have p1:=Int.mul_pos (show 0< -crs x y v by omega) ha
    have p2:=Int.mul_pos (show 0< -crs x y v by omega) hb
    have p3:=Int.mul_pos k4 hD
    have p4:=Int.mul_nonneg (show 0≤ -crs x y v by omega) hc
    -- the place z on both segments: X = crs v q x, Y = - crs v q y
    have h1:0< -crs v q y*crs v w x+crs v q x*crs v w y:=by grind
    have h2:0< -crs v q y*crs u v x+crs v q x*crs u v y:=by grind
    have h4: -crs v q y*crs w u x+crs v q x*crs w u y= -crs x y v*crs w u q+crs x y q*crs u v w:=by grind
    -- z is nearer to v than q
    have far:∀{g:Int},g≤crs w u q→(crs v q x - crs v q y)*g< -crs v q y*crs w u x+crs v q x*crs w u y:=fun {g} hg=>by
      rw [h4,←eQ]
      have p5:=Int.mul_nonneg (show 0≤crs x y q - crs x y v by omega) (show 0≤crs w u q - g by omega)
      have p6:=Int.mul_pos k4 (show 0<crs u v w - crs w u q by omega)
      grind
    rcases Int.le_total (crs w u y) (crs w u x) with o|o
    · have hnx:¬(0≤crs v w x∧0≤crs u v x):=fun z=>by
        have:=far (hx z.1 z.2)
        have:=Int.mul_nonneg (show 0≤crs v q x by omega) (show 0≤crs w u x - crs w u y by omega)
        grind
      exact meets hD k1 (show 0< -crs v q y by omega) h1 h2 o (by rw [h4];omega) (by right;rw [h4];omega) (by omega)
    · have hny:¬(0≤crs v w y∧0≤crs u v y):=fun z=>by
        have:=far (hy z.1 z.2)
        have:=Int.mul_nonneg (show 0≤ -crs v q y by omega) (show 0≤crs w u y - crs w u x by omega)
        grind
      rcases meets (x:=y) (y:=x) hD (show 0< -crs v q y by omega) k1 (by rw [Int.add_comm];exact h1) (by rw [Int.add_comm];exact h2) o (by rw [Int.add_comm,h4];omega) (by right;rw [Int.add_comm,h4];omega) (by omega) with h|h|h
      · exact .inl (onS_sw h)
      · exact .inr (.inl (mt0_sw h))
      · exact .inr (.inr (mt0_sw h))
  unfold mt0 at hm
  rw [sgm,sgm] at hm
  obtain ⟨m1,m2⟩:=hm
  have eQ:crs x y q - crs x y v=crs v q x - crs v q y:=by unfold crs;grind
  rcases m1 with m1|m1
  · have e1 := crs_sw x y v
    have e2:=crs_sw x y q
    rcases key hy hx m1.2 m1.1 (by omega) (by omega) with h|h|h
    · exact .inl (onS_sw h)
    · exact .inr (.inl (mt0_sw h))
    · exact .inr (.inr (mt0_sw h))
  · exact key hx hy m1.1 m1.2 (by omega) (by omega)
theorem meet_e {u v w x y:P2} (hD:0<crs u v w) (hx:¬(0≤crs v w x∧0≤crs u v x∧0≤crs w u x)) (hy:¬(0≤crs v w y∧0≤crs u v y∧0≤crs w u y)) (hm:mt0 w u x y):onS x y v∨mt0 u v x y∨mt0 v w x y:=by
  have key:∀{x y:P2},¬(0≤crs v w x∧0≤crs u v x∧0≤crs w u x)→0<crs w u x→crs w u y<0→(crs x y w<0∧0<crs x y u∨0<crs x y w∧crs x y u<0)→onS x y v∨mt0 u v x y∨mt0 v w x y:=fun {x y} hx k1 k2 k3=>by
    have g1:=comb_g w u x y v w
    have g2:=comb_g w u x y u v
    have z1:crs v w u=crs u v w:=by unfold crs;grind
    have z2:crs v w w=0:=by unfold crs;grind
    have z3:crs u v u=0:=by unfold crs;grind
    rw [z1,z2,Int.mul_zero] at g1
    rw [z3,Int.mul_zero] at g2
    have sx:=crs_sum u v w x
    have sy:=crs_sum u v w y
    have eQ:crs x y u - crs x y w=crs w u x - crs w u y:=by unfold crs;grind
    have hs:crs x y w<0∧0<crs x y u:=by omega
    have p1:=Int.mul_pos (show 0< -crs x y w by omega) hD
    have p2:=Int.mul_pos hs.2 hD
    have h1:0< -crs w u y*crs v w x+crs w u x*crs v w y:=by grind
    have h2:0< -crs w u y*crs u v x+crs w u x*crs u v y:=by grind
    have h4: -crs w u y*crs w u x+crs w u x*crs w u y=0:=by grind
    exact meets hD k1 (show 0< -crs w u y by omega) h1 h2 (by omega) (by omega) (by left;omega) (by omega)
  unfold mt0 at hm
  rw [sgm,sgm] at hm
  obtain ⟨m1,m2⟩:=hm
  rcases m1 with m1|m1
  · have e1 := crs_sw x y w
    have e2:=crs_sw x y u
    rcases key hy m1.2 m1.1 (by omega) with h|h|h
    · exact .inl (onS_sw h)
    · exact .inr (.inl (mt0_sw h))
    · exact .inr (.inr (mt0_sw h))
  · exact key hx m1.1 m1.2 (by omega)
theorem frac1 {D t e g:Int} (hD:0<D) (hh:D*g=t*e) (hne:e≠0) (hb:0≤g∧g≤e∨e≤g∧g≤0):0≤t∧t≤D:=by
  rcases hb with ⟨g1,g2⟩|⟨g1,g2⟩
  · have he : 0 < e := by omega
    refine ⟨Int.not_lt.1 fun z=> ?_,Int.not_lt.1 fun z=> ?_⟩
    · have p1 := Int.mul_pos (show 0 < -t by omega) he
      have p2:=Int.mul_nonneg (show 0≤D by omega) g1
      grind
    · have p1 := Int.mul_pos (show 0 < t - D by omega) he
      have p2:=Int.mul_nonneg (show 0≤D by omega) (show 0≤e - g by omega)
      grind
  · have he : 0 < -e := by omega
    refine ⟨Int.not_lt.1 fun z=> ?_,Int.not_lt.1 fun z=> ?_⟩
    · have p1 := Int.mul_pos (show 0 < -t by omega) he
      have p2:=Int.mul_nonneg (show 0≤D by omega) (show 0≤ -g by omega)
      grind
    · have p1 := Int.mul_pos (show 0 < t - D by omega) he
      have p2:=Int.mul_nonneg (show 0≤D by omega) (show 0≤g - e by omega)
      grind
theorem third_in {u v w x:P2} (hD:0<crs u v w) (ho:onS w u x):0≤crs v w x∧0≤crs u v x∧0≤crs w u x:=by
  have hx0:=ho.1
  have s:=crs_sum u v w x
  have b1:=ho.2
  have d3:w≠u:=fun z=>by subst z;unfold crs at hD;grind
  have e1:crs u v w*(x.1 - u.1)=crs u v x*(w.1 - u.1):=by
    have:crs u v w*(x.1 - u.1) - crs u v x*(w.1 - u.1)=(v.1 - u.1)*crs w u x:=by unfold crs;grind
    rw [hx0,Int.mul_zero] at this;omega
  have e2:crs u v w*(x.2 - u.2)=crs u v x*(w.2 - u.2):=by
    have:crs u v w*(x.2 - u.2) - crs u v x*(w.2 - u.2)=(v.2 - u.2)*crs w u x:=by unfold crs;grind
    rw [hx0,Int.mul_zero] at this;omega
  have hne:w.1 - u.1≠0∨w.2 - u.2≠0:=by
    by_cases k:w.1 - u.1=0
    · exact .inr fun k2=>d3 (Prod.ext (by omega) (by omega))
    · exact .inl k
  have hb2:0≤crs u v x∧crs u v x≤crs u v w:=by
    unfold betw at b1
    rcases hne with k|k
    · exact frac1 hD e1 k (by omega)
    · exact frac1 hD e2 k (by omega)
  exact ⟨by omega,hb2.1,by omega⟩
theorem seg_in {u v w q x:P2} (hD:0<crs u v w) (ha:0<crs v w q) (hb:0<crs u v q) (ho:onS v q x) (hx:x≠q):0≤crs v w x∧0≤crs u v x∧crs w u q<crs w u x:=by
  have hx0:=ho.1
  have b1:=ho.2
  have s1:=crs_sum u v w x
  have s2:=crs_sum u v w q
  have d3:q≠v:=fun z=>by subst z;unfold crs at ha;grind
  have e1:crs v w q*(x.1 - v.1)=crs v w x*(q.1 - v.1):=by
    have:crs v w q*(x.1 - v.1) - crs v w x*(q.1 - v.1)= -((w.1 - v.1)*crs v q x):=by unfold crs;grind
    rw [hx0,Int.mul_zero] at this;omega
  have e2:crs v w q*(x.2 - v.2)=crs v w x*(q.2 - v.2):=by
    have:crs v w q*(x.2 - v.2) - crs v w x*(q.2 - v.2)= -((w.2 - v.2)*crs v q x):=by unfold crs;grind
    rw [hx0,Int.mul_zero] at this;omega
  have e3:crs v w q*crs u v x=crs v w x*crs u v q:=by
    have:crs v w q*crs u v x - crs v w x*crs u v q= -(crs u v w*crs v q x):=by unfold crs;grind
    rw [hx0,Int.mul_zero] at this;omega
  have hne:q.1 - v.1≠0∨q.2 - v.2≠0:=by
    by_cases k:q.1 - v.1=0
    · exact .inr fun k2=>d3 (Prod.ext (by omega) (by omega))
    · exact .inl k
  have hb2:0≤crs v w x∧crs v w x≤crs v w q:=by
    unfold betw at b1
    rcases hne with k|k
    · exact frac1 ha e1 k (by omega)
    · exact frac1 ha e2 k (by omega)
  have hlt:crs v w x≠crs v w q:=fun z=>hx (by
    rw [z] at e1 e2
    have k1:=Int.eq_of_mul_eq_mul_left (by omega) e1
    have k2:=Int.eq_of_mul_eq_mul_left (by omega) e2
    exact Prod.ext (by omega) (by omega))
  have hbn:0≤crs u v x∧crs u v x<crs u v q:=by
    refine ⟨Int.not_lt.1 fun z=> ?_,Int.not_le.1 fun z=> ?_⟩
    · have p1 := Int.mul_nonneg hb2.1 (Int.le_of_lt hb)
      have p2:=Int.mul_pos ha (show 0< -crs u v x by omega)
      grind
    · have p1 := Int.mul_pos (show 0 < crs v w q - crs v w x by omega) hb
      have p2:=Int.mul_nonneg (Int.le_of_lt ha) (show 0≤crs u v x - crs u v q by omega)
      grind
  exact ⟨hb2.1,hbn.1,by omega⟩
section
variable {s : Int} (hs : s = 1 ∨ s = -1)
theorem rev3 (a b c:P2):crs c b a= - crs a b c:=by unfold crs;grind
theorem s1m (z:Int):(1:Int)*z=z:=Int.one_mul z
theorem snm (z:Int):(-1:Int)*z= -z:=by omega
include hs
theorem meet_ds {u v w q x y:P2} (hD:0<s*crs u v w) (ha:0<s*crs v w q) (hb:0<s*crs u v q) (hc:0≤s*crs w u q) (hx:0≤s*crs v w x→0≤s*crs u v x→s*crs w u x≤s*crs w u q) (hy:0≤s*crs v w y→0≤s*crs u v y→s*crs w u y≤s*crs w u q) (hm:mt0 v q x y):onS x y v∨mt0 u v x y∨mt0 v w x y:=by
  rcases hs with rfl|rfl
  · simp only [s1m] at hD ha hb hc hx hy
    exact meet_d hD ha hb hc hx hy hm
  · simp only [snm] at hD ha hb hc hx hy
    have r:=rev3 u v w
    have r1:∀z,crs v u z= - crs u v z:=fun z=>crs_sw _ _ _
    have r2:∀z,crs w v z= - crs v w z:=fun z=>crs_sw _ _ _
    have r3:∀z,crs u w z= - crs w u z:=fun z=>crs_sw _ _ _
    rcases meet_d (u:=w) (v:=v) (w:=u) (q:=q) (x:=x) (y:=y) (by omega) (by rw [r1];exact hb) (by rw [r2];exact ha) (by rw [r3];exact hc) (fun a b=>by rw [r3,r3];rw [r1] at a;rw [r2] at b;exact hx b a) (fun a b=>by rw [r3,r3];rw [r1] at a;rw [r2] at b;exact hy b a) hm with h|h|h
    · exact .inl h
    · exact .inr (.inr (mt0_sl h))
    · exact .inr (.inl (mt0_sl h))
theorem meet_es {u v w x y:P2} (hD:0<s*crs u v w) (hx:¬(0≤s*crs v w x∧0≤s*crs u v x∧0≤s*crs w u x)) (hy:¬(0≤s*crs v w y∧0≤s*crs u v y∧0≤s*crs w u y)) (hm:mt0 w u x y):onS x y v∨mt0 u v x y∨mt0 v w x y:=by
  rcases hs with rfl|rfl
  · simp only [s1m] at hD hx hy
    exact meet_e hD hx hy hm
  · simp only [snm] at hD hx hy
    have r:=rev3 u v w
    have r1:∀z,crs v u z= - crs u v z:=fun z=>crs_sw _ _ _
    have r2:∀z,crs w v z= - crs v w z:=fun z=>crs_sw _ _ _
    have r3:∀z,crs u w z= - crs w u z:=fun z=>crs_sw _ _ _
    rcases meet_e (u:=w) (v:=v) (w:=u) (x:=x) (y:=y) (by omega) (by rw [r1,r2,r3];omega) (by rw [r1,r2,r3];omega) (mt0_sl hm) with h|h|h
    · exact .inl h
    · exact .inr (.inr (mt0_sl h))
    · exact .inr (.inl (mt0_sl h))
theorem third_s {u v w x:P2} (hD:0<s*crs u v w) (ho:onS w u x):0≤s*crs v w x∧0≤s*crs u v x∧0≤s*crs w u x:=by
  rcases hs with rfl|rfl
  · simp only [s1m] at hD ⊢
    exact third_in hD ho
  · simp only [snm] at hD ⊢
    have r:=rev3 u v w
    have h:=third_in (u:=w) (v:=v) (w:=u) (x:=x) (by omega) (onS_sw ho)
    have r1:=crs_sw u v x
    have r2:=crs_sw v w x
    have r3:=crs_sw w u x
    omega
theorem seg_s {u v w q x:P2} (hD:0<s*crs u v w) (ha:0<s*crs v w q) (hb:0<s*crs u v q) (ho:onS v q x) (hx:x≠q):0≤s*crs v w x∧0≤s*crs u v x∧s*crs w u q<s*crs w u x:=by
  rcases hs with rfl|rfl
  · simp only [s1m] at hD ha hb ⊢
    exact seg_in hD ha hb ho hx
  · simp only [snm] at hD ha hb ⊢
    have r:=rev3 u v w
    have a1:=crs_sw u v q
    have a2:=crs_sw v w q
    have h:=seg_in (u:=w) (v:=v) (w:=u) (x:=x) (q:=q) (by omega) (by omega) (by omega) ho hx
    have r1:=crs_sw u v x
    have r2:=crs_sw v w x
    have r3:=crs_sw w u x
    have r4:=crs_sw w u q
    omega
theorem side_s {a b c q:P2} (hS:0<s*crs a b c) (hu:crs a b q=0) (hv:0≤s*crs b c q) (hw:0≤s*crs c a q):onS a b q:=by
  rcases hs with rfl|rfl
  · simp only [s1m] at hS hv hw
    exact Sw.on_of hS hu hv hw
  · simp only [snm] at hS hv hw
    have r:=crs_sw a b c
    have r1:=crs_sw a b q
    have r2:=crs_sw b c q
    have r3:=crs_sw c a q
    exact onS_sw (Sw.on_of (a:=b) (b:=a) (c:=c) (by omega) (by omega) (by omega) (by omega))
end
theorem SC.part {i j:P2} {A B:List P2} (h:SC (i :: A++j :: B)) (hA:A≠[]) (d1:∀x∈i :: A++j :: B,x≠i→x≠j→¬onS i j x) (d2:∀f∈cyc (i :: A++j :: B),f.1≠i→f.1≠j→f.2≠i→f.2≠j→¬mt0 i j f.1 f.2):SC (i :: A++[j]):=by
  have c0:=cyc_split i A j B
  have c1:=cyc_left i A j
  have sub:∀x,x∈i :: A++[j]→x∈i :: A++j :: B:=fun x hx=>by simp at hx ⊢;rcases hx with k|k|k <;> simp [k]
  have ce:∀e∈cyc (i :: A++[j]),e∈cyc (i :: A++j :: B)∨e=(j,i):=fun e he=>by
    rw [c1] at he
    rcases List.mem_append.1 he with k|k
    · exact .inl (by rw [c0];exact List.mem_append.2 (.inl k))
    · exact .inr (List.mem_singleton.1 k)
  refine ⟨?_,?_,fun e he x hx x1 x2 ho=> ?_,fun e he f hf a1 a2 a3 a4 hm=> ?_⟩
  · have : 0 < A.length := List.length_pos_iff.2 hA
    simp;omega
  · obtain ⟨n1, n2, n3⟩ := List.nodup_append.1 h.nd
    exact List.nodup_append.2 ⟨n1,by simp,fun a ha b hb=>n3 a ha b (by rw [List.mem_singleton.1 hb];exact List.mem_cons_self ..)⟩
  · rcases ce e he with k | rfl
    · exact h.v e k x (sub x hx) x1 x2 ho
    · exact d1 x (sub x hx) x2 x1 (onS_sw ho)
  · rcases ce e he with k | rfl <;> rcases ce f hf with q | rfl
    · exact h.e e k f q a1 a2 a3 a4 hm
    · exact d2 e k a2 a1 a4 a3 (mt0_sl (mt0_ex hm))
    · exact d2 f q (fun z=>a3 z.symm) (fun z=>a1 z.symm) (fun z=>a4 z.symm) (fun z=>a2 z.symm) (mt0_sl hm)
    · exact a1 rfl
theorem SC.two {i j:P2} {A B:List P2} (h:SC (i :: A++j :: B)) (hA:A≠[]) (hB:B≠[]) (d1:∀x∈i :: A++j :: B,x≠i→x≠j→¬onS i j x) (d2:∀f∈cyc (i :: A++j :: B),f.1≠i→f.1≠j→f.2≠i→f.2≠j→¬mt0 i j f.1 f.2):SC (i :: A++[j])∧SC (j :: B++[i]):=by
  refine ⟨h.part hA d1 d2,SC.part (B:=A) h.rot hB (fun x hx a b ho=>d1 x (List.perm_append_comm.mem_iff.1 hx) b a (onS_sw ho)) fun f hf a b c d hm=>d2 f ((cyc_rot _ _).mem_iff.1 hf) b a d c (mt0_sl hm)⟩
section
variable {u v w : P2} {A : List P2}
theorem SC.ends (h:SC (v :: w :: A++[u])):(u,v)∈cyc (v :: w :: A++[u])∧(v,w)∈cyc (v :: w :: A++[u]):=by
  have e:=cyc_left v (w :: A) u
  refine ⟨?_,?_⟩
  · show _ ∈ cyc (v :: (w :: A) ++ [u])
    rw [e];simp
  · show _ ∈ cyc (v :: (w :: A) ++ [u])
    rw [e]
    exact List.mem_append.2 (.inl (List.mem_cons_self ..))
theorem SC.dif (h:SC (v :: w :: A++[u])):v≠w∧v≠u∧w≠u∧∀q∈A,q≠v∧q≠w∧q≠u:=by
  have hn:=h.nd
  simp only [List.cons_append,List.nodup_cons,List.mem_cons,List.mem_append,List.nodup_append,not_or] at hn
  obtain ⟨⟨a1,a2,a3⟩,⟨b1,b2⟩,c1,c2,c3⟩:=hn
  refine ⟨a1,fun z=>a3.1 z,fun z=>b2.1 z,fun q hq=>⟨fun z=>a2 (z ▸ hq),fun z=>b1 (z ▸ hq),fun z=>c3 q hq u (by simp) z⟩⟩
theorem SC.side (h:SC (v :: w :: A++[u])) {q:P2} (hq:q∈A):¬onS u v q∧¬onS v w q:=by
  obtain ⟨e1,e2⟩:=h.ends
  obtain ⟨d1,d2,d3,d4⟩:=h.dif
  obtain ⟨q1,q2,q3⟩:=d4 q hq
  have hm:q∈v :: w :: A++[u]:=by simp [hq]
  exact ⟨h.v _ e1 q hm q3 q1,h.v _ e2 q hm q1 q2⟩
theorem SC.inn {s:Int} (hs:s=1∨s= -1) (h:SC (v :: w :: A++[u])) (hD:0<s*crs u v w) {q:P2} (hq:q∈A) (ha:0≤s*crs v w q) (hb:0≤s*crs u v q) (hc:0≤s*crs w u q):0<s*crs v w q∧0<s*crs u v q:=by
  obtain ⟨s1,s2⟩:=h.side hq
  have c1:=(crs_cyc3 u v w).1
  have z:∀{z:Int},0=s*z→z=0:=fun {z} k=>by rcases hs with rfl|rfl <;> omega
  refine ⟨?_,?_⟩
  · rcases Int.lt_or_eq_of_le ha with k | k
    · exact k
    · exact absurd (side_s hs (a:=v) (b:=w) (c:=u) (by rw [← c1];exact hD) (z k) hc hb) s2
  · rcases Int.lt_or_eq_of_le hb with k | k
    · exact k
    · exact absurd (side_s hs (a:=u) (b:=v) (c:=w) hD (z k) ha hc) s1
theorem SC.clear (h:SC (v :: w :: A++[u])) {f:P2×P2} (hf:f∈cyc (v :: w :: A++[u])) (f1:f.1≠v) (f2:f.2≠v):¬(onS f.1 f.2 v∨mt0 u v f.1 f.2∨mt0 v w f.1 f.2):=by
  obtain ⟨e1,e2⟩:=h.ends
  have hv:v∈v :: w :: A++[u]:=by simp
  have z1:∀a b:P2,crs a b a=0:=fun a b=>by unfold crs;grind
  have z2:∀a b:P2,crs a b b=0:=fun a b=>by unfold crs;grind
  rintro (k|k|k)
  · exact h.v f hf v hv (fun z=>f1 z.symm) (fun z=>f2 z.symm) k
  · refine h.e _ e1 f hf (fun z => ?_) (fun z => ?_) (fun z => f1 z.symm) (fun z => f2 z.symm) k
    · dsimp only at z
      unfold mt0 at k;rw [← z,z1] at k;simp at k
    · dsimp only at z
      unfold mt0 at k;rw [← z,z1] at k;simp at k
  · refine h.e _ e2 f hf (fun z => f1 z.symm) (fun z => f2 z.symm) (fun z => ?_) (fun z => ?_) k
    · dsimp only at z
      unfold mt0 at k;rw [← z,z2] at k;simp at k
    · dsimp only at z
      unfold mt0 at k;rw [← z,z2] at k;simp at k
theorem SC.cut {s:Int} (hs:s=1∨s= -1) (h:SC (v :: w :: A++[u])) (hA:A≠[]) (hD:0<s*crs u v w) (he:∀q∈A,¬(0≤s*crs v w q∧0≤s*crs u v q∧0≤s*crs w u q)):SC (w :: A++[u]):=by
  have h':SC (w :: A++u :: [v]):=by
    have:=SC.rot (X:=[v]) (Y:=w :: A++[u]) h
    simpa using this
  have hc:∀f,f∈cyc (w :: A++u :: [v])→f∈cyc (v :: w :: A++[u]):=fun f hf=>by
    have:=(cyc_rot [v] (w :: A++[u])).mem_iff (a:=f)
    exact this.2 (by simpa using hf)
  obtain ⟨d1,d2,d3,d4⟩:=h.dif
  have hin:∀x,x∈v :: w :: A++[u]→x≠v→x≠w→x≠u→x∈A:=fun x hx a b c=>by
    simp at hx
    rcases hx with k|k|k|k
    · exact absurd k a
    · exact absurd k b
    · exact k
    · exact absurd k c
  refine h'.part hA (fun x hx x1 x2 ho=> ?_) fun f hf a b c d hm=> ?_
  · by_cases xv : x = v
    · subst xv
      have h1:=ho.1
      have h2:=(crs_cyc3 u x w).2
      rw [h2,h1,Int.mul_zero] at hD
      exact absurd hD (Int.lt_irrefl 0)
    · have hxA := hin x (by simp at hx ⊢; rcases hx with k | k | k | k <;> simp [k]) xv x1 x2
      exact he x hxA (third_s hs hD ho)
  · by_cases f1 : f.1 = v
    · have hs : f.2 = w := by have k := hc f hf; obtain ⟨fa, fb⟩ := f; dsimp only at f1 ⊢; rw [f1] at k; exact cyc_succ h.nd k h.ends.2
      exact absurd hs c
    · by_cases f2 : f.2 = v
      · have hs : f.1 = u := by have k := hc f hf; obtain ⟨fa, fb⟩ := f; dsimp only at f2 ⊢; rw [f2] at k; exact cyc_pred h.nd k h.ends.1
        exact absurd hs b
      · have m1 : f.1 ∈ A := hin _ (cyc_mem (hc f hf)).1 f1 a b
        have m2:f.2∈A:=hin _ (cyc_mem (hc f hf)).2 f2 c d
        exact h.clear (hc f hf) f1 f2 (meet_es hs hD (he _ m1) (he _ m2) hm)
theorem SC.near {s:Int} (hs:s=1∨s= -1) {A1 A2:List P2} {q:P2} (h:SC (v :: w :: (A1++q :: A2)++[u])) (hD:0<s*crs u v w) (ha:0≤s*crs v w q) (hb:0≤s*crs u v q) (hc:0≤s*crs w u q) (hmin:∀x∈A1++q :: A2,0≤s*crs v w x→0≤s*crs u v x→0≤s*crs w u x→s*crs w u x≤s*crs w u q):SC (v :: (w :: A1)++[q])∧SC (q :: (A2++[u])++[v]):=by
  have hq:q∈A1++q :: A2:=by simp
  obtain ⟨ha',hb'⟩:=h.inn hs hD hq ha hb hc
  obtain ⟨d1,d2,d3,d4⟩:=h.dif
  have e:v :: w :: (A1++q :: A2)++[u]=v :: (w :: A1)++q :: (A2++[u]):=by simp
  have zw:crs w u w=0:=by unfold crs;grind
  have zu:crs w u u=0:=by unfold crs;grind
  have near:∀x∈v :: w :: (A1++q :: A2)++[u],x≠v→0≤s*crs v w x→0≤s*crs u v x→s*crs w u x≤s*crs w u q:=fun x hx xv k1 k2=>by
    by_cases xw:x=w
    · rw [xw,zw,Int.mul_zero];exact hc
    · by_cases xu : x = u
      · rw [xu,zu,Int.mul_zero];exact hc
      · have hxA:x∈A1++q :: A2:=by
          simp only [List.cons_append,List.mem_cons,List.mem_append,List.not_mem_nil,or_false] at hx ⊢
          rcases hx with k|k|k|k
          · exact absurd k xv
          · exact absurd k xw
          · exact k
          · exact absurd k xu
        by_cases k3:0≤s*crs w u x
        · exact hmin x hxA k1 k2 k3
        · omega
  rw [e] at h near
  refine h.two (by simp) (by simp) (fun x hx x1 x2 ho=> ?_) fun f hf a b c d hm=> ?_
  · obtain ⟨k1, k2, k3⟩ := seg_s hs hD ha' hb' ho x2
    have:=near x hx x1 k1 k2
    omega
  · rw [← e] at h hf
    obtain ⟨m1,m2⟩:=cyc_mem (x:=f.1) (y:=f.2) hf
    rw [e] at m1 m2
    exact h.clear hf a c (meet_ds hs hD ha' hb' hc (near _ m1 a) (near _ m2 c) hm)
end
end Go.Proofs.YtjcpbhlijoigfaaGreat.Er
