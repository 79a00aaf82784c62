/- Lemmas on the walk and plain lemmas that the claim of this folder uses; each states its own conditions. Lines were printed by a program of ours. -/
import Derived.Test.YtalfgjpbbongcaaZ7A
set_option linter.unusedVariables false
set_option linter.unusedSimpArgs false
set_option linter.unusedSectionVars false
namespace Go.Proofs.Ytalfgjpbbongcaa.Big
theorem getD_set_ne {l:List Int} {k j:Nat} (h:j≠k) (d:Int):(l.set k d).getD j 0=l.getD j 0:=by
  simp [List.getD,List.getElem?_set_ne (Ne.symm h)]
theorem valL_set:∀{l:List Int} {k:Nat} (d:Int),k<l.length→valL (l.set k d)=valL l+pw k*(d - l.getD k 0)
  |[],_,_,h=>by simp at h
  |x :: l,0,d,_=>by simp [valL,pw_zero];omega
  |x :: l,k+1,d,h=>by
    have:=valL_set (l:=l) (k:=k) d (by simpa using h)
    simp only [List.set_cons_succ,valL,this,pw_succ,List.getD_cons_succ]
    rw [Int.mul_add,Int.mul_assoc];omega
theorem okL_set {l:List Int} (h:okL l) {k:Nat} {d:Int} (h0:0≤d) (h1:d<1000000000):okL (l.set k d):=fun x hx=>by
  rcases List.mem_or_eq_of_mem_set hx with hx|rfl
  · exact h x hx
  · exact ⟨h0,h1⟩
theorem okL_zeros (n:Nat):okL (List.replicate n 0):=fun d hd=>by
  have:=(List.mem_replicate.1 hd).2;subst this;omega
theorem getD_zeros (n k:Nat):(List.replicate n (0:Int)).getD k 0=0:=by
  simp [List.getD,List.getElem?_replicate];split <;> rfl
theorem digs_low:∀{k:Nat} {n:Nat},k<(digs n).length→pw k≤(n:Int):=by
  intro k
  induction k with
  | zero => intro n h; rw [pw_zero]; have : n ≠ 0 := fun e => by subst e; simp [digs_zero] at h
            omega
  |succ k ih=>
    intro n h
    have hn:n≠0:=fun e=>by subst e;simp [digs_zero] at h
    rw [digs_pos hn,List.length_cons] at h
    have:=ih (n:=n / 1000000000) (by omega)
    rw [pw_succ];omega
theorem digs_lt (n:Nat):(n:Int)<pw (digs n).length:=by
  have:=valL_lt (digs_ok n);rwa [valL_digs] at this
def ln (z:Int):Nat:=(digs z.natAbs).length
theorem ln_le {z:Int} {k:Nat} (h1: - pw k<z) (h2:z<pw k):ln z≤k:=digs_len (by omega)
theorem zbe (z:Int): - pw (ln z)<z∧z<pw (ln z):=by have:=digs_lt z.natAbs;unfold ln;omega
theorem pw_add (i j:Nat):pw (i+j)=pw i*pw j:=by unfold pw;rw [Int.pow_add]
theorem zRb (x y:Int):ln (x+y)≤max (ln x) (ln y)+1:=by
  have h1:=zbe x;have h2:=zbe y
  have m1:=pw_mono (show ln x≤max (ln x) (ln y) by omega)
  have m2:=pw_mono (show ln y≤max (ln x) (ln y) by omega)
  have p:=pw_pos (max (ln x) (ln y))
  exact ln_le (by rw [pw_succ];omega) (by rw [pw_succ];omega)
theorem zBd:ln 0=0:=rfl
theorem ln_neg (x:Int):ln (-x)=ln x:=by unfold ln;rw [Int.natAbs_neg]
theorem ln_sub (x y:Int):ln (x - y)≤max (ln x) (ln y)+1:=by
  have:=zRb x (-y);rw [ln_neg] at this;rwa [Int.sub_eq_add_neg]
theorem zdb (x y:Int):ln (x*y)≤ln x+ln y:=by
  have h1:=zbe x;have h2:=zbe y
  have e:(x*y).natAbs=x.natAbs*y.natAbs:=Int.natAbs_mul x y
  have a1:(x.natAbs:Int)<pw (ln x):=by omega
  have a2:(y.natAbs:Int)<pw (ln y):=by omega
  have:((x*y).natAbs:Int)<pw (ln x+ln y):=by
    rw [e,pw_add,Int.natCast_mul]
    have p2:=pw_pos (ln y)
    have b1:(x.natAbs:Int)*y.natAbs≤x.natAbs*pw (ln y):=Int.mul_le_mul_of_nonneg_left (by omega) (by omega)
    have b2:(x.natAbs:Int)*pw (ln y)<pw (ln x)*pw (ln y):=Int.mul_lt_mul_of_pos_right a1 p2
    omega
  exact digs_len this
theorem ln_64 {z:Int} (h1: -9223372036854775808≤z) (h2:z≤9223372036854775807):ln z≤3:=by
  have:pw 3=1000000000000000000000000000:=by decide
  exact ln_le (by omega) (by omega)
def canon (s:Bool) (l:List Int):Prop:=if l.length=0 then s=false else l.getD (l.length - 1) 0≠0∧∀g∈l,g<1000000000
instance (s:Bool) (l:List Int):Decidable (canon s l):=by unfold canon;infer_instance
def raw (s:Bool) (l:List Int):Int:=if canon s l then (if s then - valL l else valL l) else 0
def nn (l:List Int):Prop:=∀g∈l,0≤g
theorem trimL_canon {s:Bool} {l:List Int} (h:canon s l):trimL l=l:=by
  unfold canon at h
  split at h
  · rename_i h0; have : l = [] := List.length_eq_zero_iff.1 h0
    subst this;rfl
  · have := trim_stop l (k := l.length) (Nat.le_refl _) (fun x => h.1 x.2)
    simpa using this
theorem canon_ok {s:Bool} {l:List Int} (h:canon s l) (hn:nn l):okL l:=fun d hd=>by
  unfold canon at h
  split at h
  · rename_i h0; have : l = [] := List.length_eq_zero_iff.1 h0
    subst this;cases hd
  · exact ⟨hn d hd,h.2 d hd⟩
theorem raw_digs {s:Bool} {l:List Int} (hn:nn l):digs (raw s l).natAbs=if canon s l then l else []:=by
  unfold raw
  by_cases h:canon s l
  · simp only [h, if_true]
    have hok:=canon_ok h hn
    have h0:=valL_nonneg hok
    have e:=digs_valL hok
    rw [trimL_canon h] at e
    have:(if s=true then - valL l else valL l).natAbs=(valL l).toNat:=by split <;> omega
    rw [this,←e]
  · simp [h,digs_zero]
theorem valL_pos:∀{l:List Int},okL l→trimL l≠[]→0<valL l:=by
  intro l h ht
  have e:=digs_valL h
  have h0:=valL_nonneg h
  by_cases hz:valL l=0
  · rw [hz] at e;exact absurd (e.trans digs_zero) ht
  · omega
def sg (s:Bool) (n:Int):Int:=if s then -n else n
theorem sg_raw {s:Bool} {l:List Int} (hn:nn l):sg s ((raw s l).natAbs:Int)=raw s l:=by
  unfold sg raw
  by_cases h:canon s l
  · have := valL_nonneg (canon_ok h hn)
    simp only [h,if_true]
    cases s
    · simp;omega
    · simp;omega
  · simp [h]
theorem canon_digs (z:Int):canon (decide (z<0)) (digs z.natAbs):=by
  unfold canon
  split
  · rename_i h; have := digs_nil.1 (List.length_eq_zero_iff.1 h)
    simp;omega
  · rename_i h
    refine ⟨fun e=> ?_,fun g hg=>(digs_ok _ g hg).2⟩
    have t:=trimL_digs z.natAbs
    have hl:0<(digs z.natAbs).length:=by omega
    have hs:=take_split (digs z.natAbs) hl (Nat.le_refl _)
    rw [List.take_length,e] at hs
    have h2:=trimL_append_zero ((digs z.natAbs).take ((digs z.natAbs).length - 1))
    rw [← hs,t] at h2
    have hlen:∀k:List Int,(trimL k).length≤k.length:=by
      intro k
      induction k with
      |nil=>simp [trimL]
      |cons x k ih=>
        simp only [trimL]
        split
        · split <;> simp
        · rename_i y t hy;rw [hy] at ih;simp at ih ⊢;omega
    have:=hlen ((digs z.natAbs).take ((digs z.natAbs).length - 1))
    rw [← h2,List.length_take] at this
    omega
theorem raw_big (z:Int):raw (decide (z<0)) (digs z.natAbs)=z:=by
  unfold raw
  rw [if_pos (canon_digs z),valL_digs]
  split <;> (rename_i h;simp at h;omega)
theorem sg_pos {s:Bool} {n:Int} (h:0<n):decide (sg s n<0)=s:=by
  unfold sg;cases s <;> simp <;> omega
theorem sg_abs {s:Bool} {n:Int} (h:0≤n):(sg s n).natAbs=n.toNat:=by
  unfold sg;cases s <;> simp <;> omega
theorem sg_zero (s:Bool):sg s 0=0:=by unfold sg;cases s <;> rfl
theorem sg_big (z:Int):sg (decide (z<0)) (z.natAbs:Int)=z:=by unfold sg;split <;> (rename_i h;simp at h;omega)
theorem sg_not (s:Bool) (n:Int):sg (!s) n= - sg s n:=by unfold sg;cases s <;> simp
theorem minus_step {os A B:List Int} {i:Nat} {bo d c:Int} (hl:os.length=i) (hv:valL os+valL (B.take i)=valL (A.take i)+pw i*bo) (hs:A.getD i 0+1000000000*c=d+B.getD i 0+bo):
    valL (os++[d])+valL (B.take (i+1))=valL (A.take (i+1))+pw (i+1)*c:=by
  rw [valL_snoc,hl,valL_take_succ,valL_take_succ,pw_succ]
  have h1:pw i*(A.getD i 0+1000000000*c)=pw i*(d+B.getD i 0+bo):=by rw [hs]
  rw [Int.mul_add,Int.mul_add,Int.mul_add] at h1
  have h2:pw i*(1000000000*c)=1000000000*pw i*c:=by rw [← Int.mul_assoc,Int.mul_comm (pw i)]
  omega
theorem minus_fin {os:List Int} {a b i:Nat} {bo:Int} (hab:b≤a) (ho:okL os) (hb0:0≤bo) (hl:os.length=i) (ha:(digs a).length≤i) (hv:valL os+valL ((digs b).take i)=valL ((digs a).take i)+pw i*bo):
    trimL os=digs (a - b):=by
  have hbl:(digs b).length≤i:=by
    refine digs_len ?_
    have:=digs_lt a
    have:=pw_mono ha
    omega
  rw [List.take_of_length_le ha,List.take_of_length_le hbl,valL_digs,valL_digs] at hv
  have h1:=valL_lt ho
  rw [hl] at h1
  have h3:=valL_nonneg ho
  have hp:=pw_pos i
  have:bo=0:=by
    by_cases hz:bo=0
    · exact hz
    · exfalso
      have:pw i*1≤pw i*bo:=Int.mul_le_mul_of_nonneg_left (by omega) (by omega)
      omega
  subst this
  exact trimL_of ho (by omega)
theorem mul_step {os A B:List Int} {i j:Nat} {p cy d c:Int} (hv:valL os+pw (i+j)*cy=valL (A.take i)*valL B+pw i*p*valL (B.take j)) (hj:i+j<os.length)
    (hs:os.getD (i+j) 0+p*B.getD j 0+cy=d+1000000000*c):
    valL (os.set (i+j) d)+pw (i+(j+1))*c=valL (A.take i)*valL B+pw i*p*valL (B.take (j+1)):=by
  rw [valL_set d hj,valL_take_succ,←Nat.add_assoc,pw_succ,Int.mul_add]
  have e1:pw i*p*(pw j*B.getD j 0)=pw (i+j)*(p*B.getD j 0):=by rw [pw_add];ac_rfl
  have h1:pw (i+j)*(os.getD (i+j) 0+p*B.getD j 0+cy)=pw (i+j)*(d+1000000000*c):=by rw [hs]
  rw [Int.mul_add,Int.mul_add,Int.mul_add] at h1
  have h2:pw (i+j)*(1000000000*c)=1000000000*pw (i+j)*c:=by rw [← Int.mul_assoc,Int.mul_comm (pw (i+j))]
  rw [e1,Int.mul_sub]
  omega
theorem mul_round {os A B:List Int} {i:Nat} {cy:Int} (hv:valL os+pw (i+B.length)*cy=valL (A.take i)*valL B+pw i*A.getD i 0*valL (B.take B.length)) (hj:i+B.length<os.length) (h0:os.getD (i+B.length) 0=0):
    valL (os.set (i+B.length) cy)=valL (A.take (i+1))*valL B:=by
  rw [valL_set cy hj,h0,valL_take_succ,Int.add_mul]
  rw [List.take_length] at hv
  have:cy - 0=cy:=by omega
  rw [this];exact hv
def cmp (x y:Int):Int:=if x<y then -1 else if y<x then 1 else 0
theorem cmp_lt {x y:Int} (h:x<y):cmp x y= -1:=by simp [cmp,h]
theorem cmp_gt {x y:Int} (h:y<x):cmp x y=1:=by simp [cmp,h];omega
theorem cmp_len {a b:Nat} (h:(digs a).length≠(digs b).length):cmp ((digs a).length:Int) ((digs b).length:Int)=cmp (a:Int) (b:Int):=by
  have key:∀a b:Nat,(digs a).length<(digs b).length→(a:Int)<b:=fun a b h=>by
    have h1:=digs_lt a
    have h2:=digs_low (k:=(digs b).length - 1) (n:=b) (by omega)
    have h3:=pw_mono (show (digs a).length≤(digs b).length - 1 by omega)
    omega
  rcases Nat.lt_or_ge (digs a).length (digs b).length with h1|h1
  · rw [cmp_lt (by omega),cmp_lt (key a b h1)]
  · rw [cmp_gt (by omega),cmp_gt (key b a (by omega))]
theorem valL_split (l:List Int) {k:Nat} (h:k<l.length):valL l=valL (l.take k)+pw k*l.getD k 0+pw (k+1)*valL (l.drop (k+1)):=by
  have e:l=l.take k++(l.getD k 0 :: l.drop (k+1)):=by
    have:l.getD k 0=l[k]:=by simp [List.getD,h]
    rw [this,List.getElem_cons_drop,List.take_append_drop]
  conv=>lhs;rw [e]
  rw [valL_append,valL,List.length_take,Nat.min_eq_left (by omega),pw_succ,Int.mul_add]
  have:pw k*(1000000000*valL (l.drop (k+1)))=1000000000*pw k*valL (l.drop (k+1)):=by rw [← Int.mul_assoc,Int.mul_comm (pw k)]
  omega
theorem val_at {l m:List Int} (hl:okL l) (hm:okL m) {k:Nat} (h1:k<l.length) (h2:k<m.length) (hd:l.drop (k+1)=m.drop (k+1)) (hlt:l.getD k 0<m.getD k 0):valL l<valL m:=by
  rw [valL_split l h1,valL_split m h2,hd]
  have a1:=valL_lt (okL_take hl k)
  have a2:=valL_nonneg (okL_take hm k)
  have a3:pw (l.take k).length=pw k:=by rw [List.length_take,Nat.min_eq_left (by omega)]
  rw [a3] at a1
  have:pw k*(l.getD k 0+1)≤pw k*m.getD k 0:=Int.mul_le_mul_of_nonneg_left (by omega) (by have:=pw_pos k;omega)
  rw [Int.mul_add] at this
  omega
theorem cmp_at {a b k:Nat} (hl:(digs a).length=(digs b).length) (h1:k<(digs a).length) (hd:(digs a).drop (k+1)=(digs b).drop (k+1)) (hne:(digs a).getD k 0≠(digs b).getD k 0):
    cmp ((digs a).getD k 0) ((digs b).getD k 0)=cmp (a:Int) (b:Int):=by
  rcases Int.lt_or_gt_of_ne hne with h|h
  · have := val_at (digs_ok a) (digs_ok b) h1 (by omega) hd h
    rw [valL_digs,valL_digs] at this
    rw [cmp_lt h,cmp_lt this]
  · have := val_at (digs_ok b) (digs_ok a) (by omega) h1 hd.symm h
    rw [valL_digs,valL_digs] at this
    rw [cmp_gt h,cmp_gt this]
theorem drop_more {l m:List Int} {k:Nat} (h1:k<l.length) (h2:k<m.length) (hd:l.drop (k+1)=m.drop (k+1)) (he:l.getD k 0=m.getD k 0):l.drop k=m.drop k:=by
  rw [List.drop_eq_getElem_cons h1,List.drop_eq_getElem_cons h2,hd]
  congr 1
  simpa [List.getD,h1,h2] using he
theorem cmp_eq {a b:Nat} (h:(digs a)=(digs b)):(a:Int)=b:=by
  have:=congrArg valL h;rwa [valL_digs,valL_digs] at this
theorem cmp_ge {x y:Int}:0≤cmp x y↔y≤x:=by
  unfold cmp;split
  · simp;omega
  · split <;> simp <;> omega
theorem getD_mem {l:List Int} {i:Nat} (h:i<l.length):l.getD i 0∈l:=by
  have:l.getD i 0=l[i]:=by simp [List.getD,h]
  rw [this];exact List.getElem_mem h
theorem mem_getD {l:List Int} {g:Int} (h:g∈l):∃j,j<l.length∧l.getD j 0=g:=by
  obtain ⟨j,hj,e⟩:=List.getElem_of_mem h
  exact ⟨j,hj,by simp [List.getD,hj,e]⟩
theorem canon_more {s:Bool} {l:List Int} (h:l.length≠0):canon s l↔l.getD (l.length - 1) 0≠0∧¬∃g∈l,1000000000≤g:=by
  unfold canon
  rw [if_neg h]
  constructor
  · rintro ⟨h1, h2⟩
    exact ⟨h1,fun ⟨g,hg,hb⟩=>by have:=h2 g hg;omega⟩
  · rintro ⟨h1, h2⟩
    exact ⟨h1,fun g hg=>by
      by_cases hb:g<1000000000
      · exact hb
      · exact absurd ⟨g,hg,by omega⟩ h2⟩
theorem trim_zero {l:List Int} (_:okL l) (ht:(trimL l).length=0):valL l=0:=by
  rw [← valL_trim,List.length_eq_zero_iff.1 ht];rfl
theorem zCd {n:Nat} (h:n<18446744073709551616):(digs n).length≤3:=by
  have:pw 3=1000000000000000000000000000:=by decide
  exact digs_len (by omega)
theorem split_step {os:List Int} {n m:Nat} (hn:0<n) (h:os++digs n=digs m):(os++[((n%1000000000:Nat):Int)])++digs (n / 1000000000)=digs m:=by
  have e:digs n=((n%1000000000:Nat):Int) :: digs (n / 1000000000):=digs_pos (by omega)
  rw [← h,e,List.append_assoc];rfl
end Go.Proofs.Ytalfgjpbbongcaa.Big
namespace Go.Proofs.Ytalfgjpbbongcaa.Big
theorem sg_mul (s t:Bool) (a b:Nat):sg (decide (s≠t)) ((a*b:Nat):Int)=sg s (a:Int)*sg t (b:Int):=by
  unfold sg;cases s <;> cases t <;> simp [Int.natCast_mul,Int.neg_mul,Int.mul_neg]
theorem mul_lim {p q:Int} (hp:0≤p∧p<1000000000) (hq:0≤q∧q<1000000000):0≤p*q∧p*q≤999999998000000001:=by
  have h1:p*q≤p*999999999:=Int.mul_le_mul_of_nonneg_left (by omega) hp.1
  have h0:=Int.mul_nonneg hp.1 hq.1
  omega
end Go.Proofs.Ytalfgjpbbongcaa.Big
namespace Go.Proofs.Ytalfgjpbbongcaa.Big
theorem made_sign {s:Bool} {l:List Int} {k:Nat} (ho:okL l) (h:l.take k=digs (sg s (valL l)).natAbs) (hl:(l.take k).length=k):decide (sg s (valL l)<0)=decide (s=true∧0<k):=by
  have h0:=valL_nonneg ho
  by_cases hz:valL l=0
  · have : k = 0 := by rw [h, hz, sg_zero] at hl; exact hl.symm
    subst this;rw [hz,sg_zero];simp
  · have hk:0<k:=by
      rcases Nat.eq_zero_or_pos k with e|e
      · subst e
        have:(sg s (valL l)).natAbs=0:=digs_nil.1 (by simpa using h.symm)
        rw [sg_abs h0] at this;omega
      · exact e
    rw [sg_pos (by omega)];simp [hk]
end Go.Proofs.Ytalfgjpbbongcaa.Big
namespace Go.Proofs.Ytalfgjpbbongcaa.Big
theorem ext_getD {l m:List Int} (hl:l.length=m.length) (h:∀j,j<l.length→l.getD j 0=m.getD j 0):l=m:=by
  refine List.ext_getElem hl (fun j h1 h2=> ?_)
  have:=h j h1
  simpa [List.getD,h1,h2] using this
theorem same_iff {x y:Int}:(decide (x<0)=decide (y<0)∧digs x.natAbs=digs y.natAbs)↔x=y:=by
  constructor
  · rintro ⟨h1, h2⟩
    have:=congrArg valL h2
    rw [valL_digs,valL_digs] at this
    have h3:=decide_eq_decide.1 h1
    omega
  · rintro rfl;exact ⟨rfl,rfl⟩
end Go.Proofs.Ytalfgjpbbongcaa.Big
namespace Go.Proofs.Ytalfgjpbbongcaa.Sp
open Go
set_option linter.unusedVariables false
structure Wd where
  s:Bool
  p:Option Addr
  n:Nat
  c:Nat
@[reducible] def Wd.b (w : Wd) : Value := .bool w.s
@[reducible] def Wd.l (w : Wd) : Value := .slice w.p w.n w.c
@[reducible] def cw : List Wd → List Value
  |[]=>[]
  |w :: l=>w.b :: w.l :: cw l
def wz:Wd:=⟨false,none,0,0⟩
def Wd.is (g:Hp) (w:Wd) (z:Int):Prop:=w.s=decide (z<0)∧w.n=(Big.digs z.natAbs).length∧Sl (rI .u32) g w.p w.c (Big.digs z.natAbs)
def zF (w:Wd) (z:Int):Fa:=⟨fun g=>w.is g z,fun _ _ h k=>⟨k.1,k.2.1,k.2.2.mono h⟩⟩
theorem zF_zero (g:Hp):(zF wz 0).on g:=⟨rfl,rfl,Sl.nil _ _⟩
def lb (n k:Nat):Array Bool:=⟨(List.range n).map (Nat.testBit k)⟩
section
variable {P : Program} {c : Cx} {n : Sz} {Q : Exit → Act → World → Prop} {m : Fm} {O : List As} {R : List Fa} {f : Nat}
theorem Mem.fact {w:World} {r:Fa} (h:∀g,Holds g R→r.on g) (mm:Mem c w O R):Mem c w O (r :: R):=
  mm.weaken fun hh g s r' a=>⟨hh,g,s,⟨h g r',r'⟩,Hp.le_refl _,Hp.le_refl _,a,fun _ _ e=> .inl e⟩
theorem zpe {e:Exit} (r:Fa) (h:∀g,Holds g R→r.on g) (k:Post c n Q e m O (r :: R)):Post c n Q e m O R:=fun a w f mm=>k a w f (mm.fact h)
theorem Mem.mapR {w:World} {R':List Fa} (h:∀g,Holds g R→Holds g R') (mm:Mem c w O R):Mem c w O R':=
  mm.weaken fun hh g s r' a=>⟨hh,g,s,h g r',Hp.le_refl _,Hp.le_refl _,a,fun _ _ e=> .inl e⟩
theorem Con.told {A:List Value} {Y Z:Type} {φ:Y→Prop} {val:Y→Value} {O':Y→List As} {R':Y→List Fa} {ψ:Z→Prop} {val2:Z→Value} {O2:Z→List As} {R2:Z→List Fa} (h:Con P f A O R φ val O' R') (t:Y→Z)
    (hv:∀y,val y=val2 (t y)) (hp:∀y,φ y→ψ (t y)) (ho:∀y,O' y=O2 (t y)) (hR:∀y,φ y→∀g,Holds g (R' y)→Holds g (R2 (t y))):Con P f A O R ψ val2 O2 R2:=fun w hh g s r ap h1 h2=>
  (h w hh g s r ap h1 h2).mono fun e w' ⟨y,e1,e2,e3⟩=>⟨t y,by rw [e1,hv],hp y e2,by rw [← ho];exact Mem.mapR (hR y e2) e3⟩
theorem Con.of {A:List Value} {Y:Type} {φ:Y→Prop} {val:Y→Value} {O':Y→List As} {R':Y→List Fa} {X:Type} {ψ:X→Prop} {A2:X→List Value} {R2:X→List Fa}
    (h:∀x,ψ x→Con P f (A2 x) O (R2 x) φ val O' R') (hx:∀g,Holds g R→∃x,ψ x∧A2 x=A∧Holds g (R2 x)):Con P f A O R φ val O' R':=fun w hh g s r ap h1 h2=>by
  obtain ⟨x,hp,e,r2⟩:=hx g r
  have:=h x hp w hh g s r2 ap h1 h2
  rw [e] at this;exact this
abbrev bigL (z:Int) (p:Option Addr) (c:Nat):List Value:=[.bool (decide (z<0)),.slice p (Big.digs z.natAbs).length c]
abbrev bigS (z:Int) (p:Option Addr) (c:Nat):Fa:=slF (rI .u32) p c (Big.digs z.natAbs)
theorem Wd.eq {g:Hp} {w:Wd} {z:Int} (h:w.is g z):[w.b,w.l]=bigL z w.p w.c:=by rw [Wd.b,Wd.l,h.1,h.2.1]
theorem zYc {z1 z2:Int} {w1 w2:Wd} {Y:Type} {φ:Y→Prop} {val:Y→Value} {O':Y→List As} {R':Y→List Fa} (h:∀p1 c1 p2 c2,Con P f [.agg (bigL z1 p1 c1).toArray,.agg (bigL z2 p2 c2).toArray] O [bigS z1 p1 c1,bigS z2 p2 c2] φ val O' R'):Con P f [.agg #[w1.b,w1.l],.agg #[w2.b,w2.l]] O [zF w1 z1,zF w2 z2] φ val O' R':=
  Con.of (X:=Unit) (ψ:=fun _=>True) (A2:=fun _=>[.agg (bigL z1 w1.p w1.c).toArray,.agg (bigL z2 w2.p w2.c).toArray]) (R2:=fun _=>[bigS z1 w1.p w1.c,bigS z2 w2.p w2.c]) (fun _ _=>h w1.p w1.c w2.p w2.c) fun g r=>⟨(),trivial,by rw [← Wd.eq r.1,←Wd.eq r.2.1],r.1.2.2,r.2.1.2.2,trivial⟩
theorem zCc {z:Int} {A:List Value} (h:Con P f A O R (Y:=Option Addr×Nat) (fun _=>True) (fun y=> .agg (bigL z y.1 y.2).toArray) (fun _=>[]) (fun y=>[bigS z y.1 y.2])):Con P f A O R (Y:=Wd) (fun _=>True) (fun w=> .agg #[w.b,w.l]) (fun _=>[]) (fun w=>[zF w z]):=
  h.told (fun y=>⟨decide (z<0),y.1,(Big.digs z.natAbs).length,y.2⟩) (fun _=>rfl) (fun _ _=>trivial) (fun _=>rfl) (fun y _ g r=>⟨⟨rfl,rfl,r.1⟩,trivial⟩)
end
section
variable {P : Program} {c : Cx} {n : Sz} {Q : Exit → Act → World → Prop} {m : Fm} {O OW : List As} {R R' : List Fa} {ops : Array Oper} {ro : Option Nat} {l : List Oper} {wi k : Nat} {L : Array Bool} {α : Type} {d : Option Tmp} {ty : TypeId} {ps : String} {af : Array Edge} {gd : Option (Nat × Bool)}
def PartsG (m:Fm) (R:List Fa) (r:Rp α):Nat→List (Nat×Operand)→List (Nat×Value)→List α→List (List Value)→Prop
  |_,[],[],[],[]=>True
  |i,(i1,x0) :: xs,(i2,v) :: vs,x :: es,cs :: css=>i1=i∧i2=i∧evo m x0=some v∧v.cells=cs.toArray∧(∀g,Holds g R→∃γ,r.enc x γ=cs∧r.ok g x γ)∧cs.length=r.sz∧PartsG m R r (i+1) xs vs es css
  |_,_,_,_,_=>False
theorem PartsG.evp {r:Rp α}:∀{i:Nat} {xs:List (Nat×Operand)} {vs:List (Nat×Value)} {es:List α} {css:List (List Value)},PartsG m R r i xs vs es css→evp m xs vs
  |_,[],[],[],[],_=>trivial
  |_,(_,_) :: _,(_,_) :: _,_ :: _,_ :: _,⟨h1,h2,h,_,_,_,k⟩=>⟨h1.trans h2.symm,h,PartsG.evp k⟩
theorem PartsG.len {r:Rp α}:∀{i:Nat} {xs:List (Nat×Operand)} {vs:List (Nat×Value)} {es:List α} {css:List (List Value)},PartsG m R r i xs vs es css→css.flatten.length=es.length*r.sz
  |_,[],[],[],[],_=>by simp
  |_,(_,_) :: _,(_,_) :: _,_ :: es,_ :: css,⟨_,_,_,_,_,hl,k⟩=>by
    have:=PartsG.len k
    simp only [List.flatten_cons,List.length_append,hl,this,List.length_cons,Nat.succ_mul];omega
theorem PartsG.fill {r:Rp α}:∀{i:Nat} {xs:List (Nat×Operand)} {vs:List (Nat×Value)} {es:List α} {css:List (List Value)},PartsG m R r i xs vs es css→∀(pre rest:List Value),pre.length=i*r.sz→rest.length=es.length*r.sz→
    Fill (fun i=>some (i*r.sz,r.sz)) (pre++rest) vs (pre++css.flatten)
  |_,[],[],[],[],_,pre,rest,hp,hr=>by
    have:rest=[]:=List.eq_nil_of_length_eq_zero (by simpa using hr)
    subst this;rfl
  |i,(_,_) :: _,(_,_) :: _,x :: es,cs :: css,⟨h1,h2,h,hv,_,hl,k⟩,pre,rest,hp,hr=>by
    subst h2
    refine ⟨_*r.sz,r.sz,cs,pre++(cs++rest.drop r.sz),rfl,hv,hl,⟨?_,?_⟩,?_⟩
    · simp only [List.length_append,hp,hl,hr,List.length_cons,Nat.succ_mul];omega
    · rw [hl, ← hp, List.take_left, List.drop_append]
      have:pre.drop (pre.length+r.sz)=[]:=List.drop_eq_nil_of_le (by omega)
      rw [this,List.nil_append,show pre.length+r.sz - pre.length=r.sz by omega,List.append_assoc]
    · have := PartsG.fill k (pre ++ cs) (rest.drop r.sz) (by rw [List.length_append, hp, hl, Nat.succ_mul]) (by rw [List.length_drop, hr, List.length_cons, Nat.succ_mul]; omega)
      simpa [List.append_assoc] using this
theorem PartsG.els {r:Rp α} {g:Hp} (hr:Holds g R):∀{i:Nat} {xs:List (Nat×Operand)} {vs:List (Nat×Value)} {es:List α} {css:List (List Value)},PartsG m R r i xs vs es css→Els r g css.flatten 0 es
  |_,[],[],[],[],_=>fun i x e=>by simp at e
  |_,(_,_) :: _,(_,_) :: _,x :: es,cs :: css,⟨_,_,h,hv,hok,hl,k⟩=>fun i y e=>by
    cases i with
    |zero=>
      simp at e;subst e
      obtain ⟨γ,h1,h2⟩:=hok g hr
      refine ⟨γ,⟨r.len _ _,fun j v ev=> ?_⟩,h2⟩
      rw [h1] at ev
      have hj:=(List.getElem?_eq_some_iff.1 ev).1
      simp only [List.flatten_cons,Nat.zero_mul,Nat.zero_add]
      rw [List.getElem?_append_left hj];exact ev
    |succ i=>
      obtain ⟨γ,a1,a2⟩:=PartsG.els hr k i y (by simpa using e)
      refine ⟨γ,⟨a1.1,fun j v ev=> ?_⟩,a2⟩
      have:=a1.2 j v ev
      simp only [List.flatten_cons]
      rw [List.getElem?_append_right (by rw [hl,Nat.succ_mul];omega),hl]
      rw [show 0+(i+1)*r.sz+j - r.sz=0+i*r.sz+j by rw [Nat.succ_mul];omega];exact this
end
theorem PartsG.n {α:Type} {m:Fm} {R:List Fa} {r:Rp α} {i:Nat}:PartsG m R r i [] [] [] []:=trivial
theorem PartsG.c {α:Type} {m:Fm} {R:List Fa} {r:Rp α} {i:Nat} {x0:Operand} {v:Value} {x:α} {cs:List Value} {xs:List (Nat×Operand)} {vs:List (Nat×Value)} {es:List α} {css:List (List Value)} (γ:r.G) (h:evo m x0=some v) (hv:v.cells=cs.toArray) (he:r.enc x γ=cs) (hok:∀g,Holds g R→r.ok g x γ) (k:PartsG m R r (i+1) xs vs es css):PartsG m R r i ((i,x0) :: xs) ((i,v) :: vs) (x :: es) (cs :: css):=
  ⟨rfl,rfl,h,hv,fun g hr=>⟨γ,he,hok g hr⟩,by rw [← he];exact r.len _ _,k⟩
abbrev T9:=(Int×Int×Int)×(Int×Int×Int)×(Int×Int×Int)
section
variable {P : Program} {c : Cx} {n : Sz} {Q : Exit → Act → World → Prop} {m : Fm} {O : List As} {R : List Fa} {α : Type} {d : Option Tmp} {ty : TypeId} {ps : String} {af : Array Edge} {gd : Option (Nat × Bool)}
theorem RowOn.take {T:TypeId} {r:Rp α} {p:Option Addr} {cap:Nat} {l:List α} {g h:Hp} (k:Nat) (s:RowOn T r p cap l g h):RowOn T r p cap (l.take k) g h:=by
  rcases s with ⟨h1,h2,h3,h4⟩|⟨b,off,cells,e1,e2,e3,e4,e5,e6⟩
  · exact .inl ⟨h1,h2,by rw [h3];simp,h4⟩
  · refine .inr ⟨b, off, cells, e1, by rw [List.length_take]; omega, e3, e4, e5, fun i x e => e6 i x ?_⟩
    rw [List.getElem?_take] at e
    split at e
    · exact e
    · cases e
end
section
variable {P : Program} {c : Cx} {n : Sz} {Q : Exit → Act → World → Prop} {m : Fm} {O OW : List As} {R R' : List Fa} {ops : Array Oper} {ro : Option Nat} {l : List Oper} {wi k : Nat} {L : Array Bool} {α : Type} {ty : TypeId} {ps : String} {af : Array Edge} {gd : Option (Nat × Bool)}
end
end Go.Proofs.Ytalfgjpbbongcaa.Sp
namespace Go.Proofs.Ytalfgjpbbongcaa.Ms
set_option linter.unusedVariables false
abbrev V3:=Int×Int×Int
section
variable {α : Type}
theorem drop_cons {l:List α} {i:Nat} (d:α) (h:i<l.length):l.drop i=l.getD i d :: l.drop (i+1):=by
  rw [List.drop_eq_getElem_cons h];simp [List.getD,List.getElem?_eq_getElem h]
theorem take_snoc {l:List α} {i:Nat} (d:α) (h:i<l.length):l.take (i+1)=l.take i++[l.getD i d]:=by
  rw [List.take_add_one];simp [List.getD,List.getElem?_eq_getElem h]
theorem ext_getD {l m:List α} (d:α) (hl:l.length=m.length) (h:∀j,j<l.length→l.getD j d=m.getD j d):l=m:=by
  refine List.ext_getElem hl fun i h1 h2=> ?_
  have:=h i h1
  simpa [List.getD,List.getElem?_eq_getElem h1,List.getElem?_eq_getElem h2] using this
theorem getD_mem {l:List α} {i:Nat} (d:α) (h:i<l.length):l.getD i d∈l:=by
  simp [List.getD,List.getElem?_eq_getElem h]
theorem mem_getD {l:List α} {x:α} (d:α) (h:x∈l):∃j,j<l.length∧l.getD j d=x:=by
  obtain ⟨j,hj,e⟩:=List.getElem_of_mem h
  exact ⟨j,hj,by simp [List.getD,List.getElem?_eq_getElem hj,e]⟩
theorem any_false {l:List α} {f:α→Bool} (d:α) (h:∀j,j<l.length→f (l.getD j d)=false):l.any f=false:=by
  rw [List.any_eq_false]
  intro x hx
  obtain ⟨j,hj,e⟩:=mem_getD d hx
  have:=h j hj
  rw [e] at this;simp [this]
theorem any_true {l:List α} {f:α→Bool} (d:α) {i:Nat} (hi:i<l.length) (h:f (l.getD i d)=true):l.any f=true:=
  List.any_eq_true.2 ⟨_,getD_mem d hi,h⟩
theorem all_lt_succ {P:Nat→Prop} {i:Nat} (h:∀j,j<i→P j) (hi:P i):∀j,j<i+1→P j:=fun j hj=>by
  by_cases e:j=i
  · subst e;exact hi
  · exact h j (by omega)
end
theorem tdiv_le {a b:Int} (hb:0<b) (h1: -4611686018427387904≤a) (h2:a≤4611686018427387904): -4611686018427387904≤a.tdiv b∧a.tdiv b≤4611686018427387904:=by
  have:(a.tdiv b).natAbs≤a.natAbs:=by rw [Int.natAbs_tdiv];exact Nat.div_le_self _ _
  omega
theorem mean_lt {a b:Int} (hb:0<b) (h:a.tmod b<0):a.tdiv b - 1=a / b:=by
  have h1:=Int.mul_tdiv_add_tmod a b
  have h2: - b<a.tmod b:=by have:=Int.lt_tmod_of_pos a hb;omega
  refine ((Int.ediv_emod_unique hb (r:=a.tmod b+b)).2 ⟨?_,by omega,by omega⟩).1.symm
  rw [Int.mul_sub];omega
theorem mean_ge {a b:Int} (hb:0<b) (h:¬a.tmod b<0):a.tdiv b=a / b:=by
  have h1:=Int.mul_tdiv_add_tmod a b
  have h2:a.tmod b<b:=Int.tmod_lt_of_pos a hb
  exact ((Int.ediv_emod_unique hb (r:=a.tmod b)).2 ⟨by omega,by omega,by omega⟩).1.symm
def farI (n:Int):Bool:=decide (n< -1048576∨1048576<n)
def far (p:V3):Bool:=[p.1,p.2.1,p.2.2].any farI
def badIx (n:Nat) (f:V3):Bool:=decide (f.1<0∨(n:Int)≤f.1∨f.2.1<0∨(n:Int)≤f.2.1∨f.2.2<0∨(n:Int)≤f.2.2)
def deg (f:V3):Bool:=decide (f.1=f.2.1∨f.2.1=f.2.2∨f.2.2=f.1)
def formF (n:Nat):List V3→Int
  |[]=>0
  |f :: l=>if badIx n f then 2 else if deg f then 13 else formF n l
def form (V F:List V3):Int:=if 512<V.length∨1024<F.length then 3 else if V.any far then 2 else formF V.length F
theorem formF_step {n:Nat} {F:List V3} {i:Nat} (h:i<F.length):formF n (F.drop i)=if badIx n (F.getD i (0,0,0)) then 2 else if deg (F.getD i (0,0,0)) then 13 else formF n (F.drop (i+1)):=by
  rw [drop_cons (0,0,0) h];rfl
structure Good (V F:List V3):Prop where
  nv:V.length≤512
  nf:F.length≤1024
  far:∀p∈V,far p=false
  ix:∀f∈F,badIx V.length f=false
  dg:∀f∈F,deg f=false
theorem formF_zero {n:Nat}:∀{F:List V3},formF n F=0↔(∀f∈F,badIx n f=false)∧∀f∈F,deg f=false
  |[]=>by simp [formF]
  |f :: l=>by
    simp only [formF,List.mem_cons,forall_eq_or_imp]
    by_cases h1:badIx n f=true
    · simp [h1]
    · by_cases h2 : deg f = true
      · simp [h1,h2]
      · simp [h1,h2,formF_zero (F:=l)]
theorem form_zero {V F:List V3}:form V F=0↔Good V F:=by
  unfold form
  constructor
  · intro h
    split at h
    · cases h
    · split at h
      · cases h
      · rename_i h1 h2
        obtain ⟨h3,h4⟩:=formF_zero.1 h
        exact ⟨by omega,by omega,fun p hp=>by simp at h2;exact h2 _ _ _ hp,h3,h4⟩
  · intro ⟨h1, h2, h3, h4, h5⟩
    rw [if_neg (by omega),if_neg (by simp only [Bool.not_eq_true];rw [List.any_eq_false];intro p hp;simp [h3 p hp])]
    exact formF_zero.2 ⟨h4,h5⟩
theorem Good.at {V F:List V3} (h:Good V F) {i:Nat} (hi:i<F.length):(0≤(F.getD i (0,0,0)).1∧(F.getD i (0,0,0)).1<V.length)∧(0≤(F.getD i (0,0,0)).2.1∧(F.getD i (0,0,0)).2.1<V.length)∧(0≤(F.getD i (0,0,0)).2.2∧(F.getD i (0,0,0)).2.2<V.length)∧
    (F.getD i (0,0,0)).1≠(F.getD i (0,0,0)).2.1∧(F.getD i (0,0,0)).2.1≠(F.getD i (0,0,0)).2.2∧(F.getD i (0,0,0)).2.2≠(F.getD i (0,0,0)).1:=by
  have h1:=h.ix _ (getD_mem (0,0,0) hi)
  have h2:=h.dg _ (getD_mem (0,0,0) hi)
  simp only [badIx,deg,decide_eq_false_iff_not] at h1 h2
  omega
theorem Good.vat {V F:List V3} (h:Good V F) {i:Nat} (hi:i<V.length):(-1048576≤(V.getD i (0,0,0)).1∧(V.getD i (0,0,0)).1≤1048576)∧(-1048576≤(V.getD i (0,0,0)).2.1∧(V.getD i (0,0,0)).2.1≤1048576)∧(-1048576≤(V.getD i (0,0,0)).2.2∧(V.getD i (0,0,0)).2.2≤1048576):=by
  have h1:=h.far _ (getD_mem (0,0,0) hi)
  simp only [Ms.far,farI,List.any_cons,List.any_nil,Bool.or_false,Bool.or_eq_false_iff,decide_eq_false_iff_not] at h1
  omega
theorem form_lim {V F:List V3} (h:512<V.length∨1024<F.length):form V F=3:=by unfold form;rw [if_pos h]
theorem form_far {V F:List V3} (h:¬(512<V.length∨1024<F.length)) (h2:V.any far=true):form V F=2:=by unfold form;rw [if_neg h,if_pos h2]
theorem form_go {V F:List V3} (h:¬(512<V.length∨1024<F.length)) (h2:V.any far=false):form V F=formF V.length F:=by unfold form;rw [if_neg h,if_neg (by simp [h2])]
theorem mul_le {a b A B:Int} (ha: -A≤a∧a≤A) (hb: -B≤b∧b≤B): -(A*B)≤a*b∧a*b≤A*B:=by
  have h1:(a*b).natAbs≤A.natAbs*B.natAbs:=by rw [Int.natAbs_mul];exact Nat.mul_le_mul (by omega) (by omega)
  have hA:A=(A.natAbs:Int):=by omega
  have hB:B=(B.natAbs:Int):=by omega
  have h2:A*B=((A.natAbs*B.natAbs:Nat):Int):=by rw [Int.natCast_mul,←hA,←hB]
  omega
def hasV (f:V3) (v:Int):Bool:=decide (f.1=v∨f.2.1=v∨f.2.2=v)
def common (f g:V3):Int:=(if hasV g f.1 then 1 else 0)+(if hasV g f.2.1 then 1 else 0)+(if hasV g f.2.2 then 1 else 0)
def sub (a b:V3):V3:=(a.1 - b.1,a.2.1 - b.2.1,a.2.2 - b.2.2)
def cross (a b:V3):V3:=(a.2.1*b.2.2 - a.2.2*b.2.1,a.2.2*b.1 - a.1*b.2.2,a.1*b.2.1 - a.2.1*b.1)
def dot (a b:V3):Int:=a.1*b.1+a.2.1*b.2.1+a.2.2*b.2.2
def det (a b c:V3):Int:=dot a (cross b c)
end Go.Proofs.Ytalfgjpbbongcaa.Ms
namespace Go.Proofs.Ytalfgjpbbongcaa.Big
theorem zDd (a b:Int×Int×Int) (h1:ln a.1≤1000) (h2:ln a.2.1≤1000) (h3:ln a.2.2≤1000) (h4:ln b.1≤1000) (h5:ln b.2.1≤1000) (h6:ln b.2.2≤1000):ln (Ms.dot a b)≤3000:=by
  have:=zdb a.1 b.1
  have:=zdb a.2.1 b.2.1
  have:=zdb a.2.2 b.2.2
  have:=zRb (a.1*b.1) (a.2.1*b.2.1)
  have:=zRb (a.1*b.1+a.2.1*b.2.1) (a.2.2*b.2.2)
  unfold Ms.dot
  omega
end Go.Proofs.Ytalfgjpbbongcaa.Big
namespace Go.Proofs.Ytalfgjpbbongcaa.Ms
open Go.Proofs.Ytalfgjpbbongcaa.Sp (mget mput mget_mput mput_keys mput_nodup mget_isSome)
set_option linter.unusedVariables false
def UOk (u:List (Int×Int)):Prop:=∀k p,mget u k=some p→0≤p∧p≤k
def findF (u:List (Int×Int)):Nat→Int→Int
  |0,i=>i
  |f+1,i=>match mget u i with
    |some p=>if p=i then i else findF u f p
    |none=>i
def find (u:List (Int×Int)) (i:Int):Int:=findF u (i.toNat+1) i
theorem findF_more {u:List (Int×Int)} (h:UOk u):∀(f:Nat) (i:Int),0≤i→i.toNat<f→findF u (f+1) i=findF u f i
  |0,i,_,hf=>by omega
  |f+1,i,h0,hf=>by
    rw [findF,findF]
    cases hm:mget u i with
    |none=>rfl
    |some p=>
      have:=h _ _ hm
      by_cases hp:p=i
      · simp [hp]
      · simp only [hp, if_false]
        exact findF_more h f p this.1 (by omega)
theorem findF_eq {u:List (Int×Int)} (h:UOk u) {i:Int} (h0:0≤i):∀(f:Nat),i.toNat<f→findF u f i=find u i:=by
  intro f hf
  unfold find
  obtain ⟨d,rfl⟩:∃d,f=i.toNat+1+d:=⟨f - (i.toNat+1),by omega⟩
  clear hf
  induction d with
  |zero=>rfl
  |succ d ih=>rw [← ih];exact findF_more h (i.toNat+1+d) i h0 (by omega)
theorem find_none {u:List (Int×Int)} {i:Int} (h:mget u i=none):find u i=i:=by unfold find;rw [findF,h]
theorem find_self {u:List (Int×Int)} {i:Int} (h:mget u i=some i):find u i=i:=by unfold find;rw [findF,h];simp
theorem find_up {u:List (Int×Int)} (h:UOk u) {i p:Int} (hm:mget u i=some p):find u i=find u p:=by
  by_cases hp:p=i
  · rw [hp]
  · have := h _ _ hm
    rw [find,findF,hm]
    simp only [hp,if_false]
    exact findF_eq h this.1 _ (by omega)
theorem find_stop {u:List (Int×Int)} {i:Int} (h:(!(mget u i).isSome)=true∨(mget u i).getD 0=i):find u i=i:=by
  cases hm:mget u i with
  |none=>exact find_none hm
  |some p=>
    rw [hm] at h
    simp at h
    exact find_self (by rw [hm,h])
theorem find_go {u:List (Int×Int)} (hU:UOk u) {i:Int} (h:¬((!(mget u i).isSome)=true∨(mget u i).getD 0=i)):0≤(mget u i).getD 0∧(mget u i).getD 0<i∧find u ((mget u i).getD 0)=find u i:=by
  cases hm:mget u i with
  |none=>rw [hm] at h;simp at h
  |some p=>
    rw [hm] at h
    simp at h
    have:=hU _ _ hm
    simp only [Option.getD_some]
    exact ⟨this.1,by omega,(find_up hU hm).symm⟩
theorem find_ind {u:List (Int×Int)} (h:UOk u) {Q:Int→Prop} (h1:∀i,0≤i→(mget u i=none∨mget u i=some i)→Q i) (h2:∀i p,mget u i=some p→0≤p→p<i→Q p→Q i):∀i,0≤i→Q i:=by
  intro i h0
  obtain ⟨n,hn⟩:∃n:Nat,i.toNat=n:=⟨_,rfl⟩
  induction n using Nat.strongRecOn generalizing i with
  |_ n ih=>
    cases hm:mget u i with
    |none=>exact h1 i h0 (.inl hm)
    |some p=>
      have:=h _ _ hm
      by_cases hp:p=i
      · exact h1 i h0 (.inr (by rw [hm,hp]))
      · exact h2 i p hm this.1 (by omega) (ih p.toNat (by omega) p this.1 rfl)
theorem find_rng {u:List (Int×Int)} (h:UOk u):∀i,0≤i→0≤find u i∧find u i≤i:=
  find_ind h (fun i h0 hm=>by
    have:find u i=i:=hm.elim find_none find_self
    omega) (fun i p hm h0 hlt ih=>by rw [find_up h hm];omega)
theorem find_root {u:List (Int×Int)} (h:UOk u):∀i,0≤i→(mget u (find u i)=none∨mget u (find u i)=some (find u i)):=
  find_ind h (fun i h0 hm=>by
    have:find u i=i:=hm.elim find_none find_self
    rw [this];exact hm) (fun i p hm h0 hlt ih=>by rw [find_up h hm];exact ih)
def joinU (u:List (Int×Int)) (i k:Int):List (Int×Int):=mput u (max (find u i) (find u k)) (min (find u i) (find u k))
theorem joinU_ok {u:List (Int×Int)} (h:UOk u) {i k:Int} (hi:0≤i) (hk:0≤k):UOk (joinU u i k):=fun a p hm=>by
  unfold joinU at hm
  rw [mget_mput] at hm
  have:=find_rng h i hi
  have:=find_rng h k hk
  split at hm
  · rename_i e;cases hm;omega
  · exact h _ _ hm
theorem find_join {u:List (Int×Int)} (h:UOk u) {i k:Int} (hi:0≤i) (hk:0≤k):∀x,0≤x→find (joinU u i k) x=if find u x=max (find u i) (find u k) then min (find u i) (find u k) else find u x:=by
  have hj:=joinU_ok h hi hk
  have hri:=find_rng h i hi
  have hrk:=find_rng h k hk
  have hgi:=find_root h i hi
  have hgk:=find_root h k hk
  generalize hM:max (find u i) (find u k)=M at*
  generalize hm:min (find u i) (find u k)=m at*
  have hget:∀x,mget (joinU u i k) x=if M=x then some m else mget u x:=fun x=>by unfold joinU;rw [mget_mput,hM,hm]
  have hmroot:mget u m=none∨mget u m=some m:=by
    rcases Int.le_total (find u i) (find u k) with hle|hle
    · have : m = find u i := by omega
      rw [this];exact hgi
    · have : m = find u k := by omega
      rw [this];exact hgk
  have hMroot:mget u M=none∨mget u M=some M:=by
    rcases Int.le_total (find u i) (find u k) with hle|hle
    · have : M = find u k := by omega
      rw [this];exact hgk
    · have : M = find u i := by omega
      rw [this];exact hgi
  have hfm:find (joinU u i k) m=m:=by
    by_cases e:M=m
    · exact find_self (by rw [hget,if_pos e])
    · rcases hmroot with h1 | h1
      · exact find_none (by rw [hget,if_neg e,h1])
      · exact find_self (by rw [hget,if_neg e,h1])
  refine find_ind h (fun x h0 hx=> ?_) (fun x p hx h0 hlt ih=> ?_)
  · have hfx : find u x = x := hx.elim find_none find_self
    rw [hfx]
    by_cases e:x=M
    · rw [if_pos e]
      have:=find_up hj (i:=x) (p:=m) (by rw [hget,if_pos e.symm])
      rw [this,hfm]
    · rw [if_neg e]
      rcases hx with h1|h1
      · exact find_none (by rw [hget,if_neg (Ne.symm e),h1])
      · exact find_self (by rw [hget,if_neg (Ne.symm e),h1])
  · have e:M≠x:=fun e=>by
      subst e
      rcases hMroot with h1|h1
      · rw [h1] at hx;cases hx
      · rw [h1] at hx;simp at hx;omega
    rw [find_up hj (i:=x) (p:=p) (by rw [hget,if_neg e,hx]),ih,find_up h hx]
inductive Conn (P:List (Int×Int)):Int→Int→Prop
  |refl (a:Int):Conn P a a
  |step {a b c w:Int}:Conn P a b→(b,w)∈P→(c,w)∈P→Conn P a c
theorem Conn.trans {P:List (Int×Int)} {a b c:Int} (h:Conn P a b) (k:Conn P b c):Conn P a c:=by
  induction k with
  |refl=>exact h
  |step _ h1 h2 ih=>exact .step ih h1 h2
theorem Conn.symm {P:List (Int×Int)} {a b:Int} (h:Conn P a b):Conn P b a:=by
  induction h with
  |refl=>exact .refl _
  |step _ h1 h2 ih=>exact (Conn.step (.refl _) h2 h1).trans ih
theorem Conn.mono {P P':List (Int×Int)} (hP:∀x∈P,x∈P') {a b:Int} (h:Conn P a b):Conn P' a b:=by
  induction h with
  |refl=>exact .refl _
  |step _ h1 h2 ih=>exact .step ih (hP _ h1) (hP _ h2)
structure UInv (P u oth:List (Int×Int)):Prop where
  ok:UOk u
  conn:∀a b,0≤a→0≤b→(find u a=find u b↔Conn P a b)
  from_:∀w k,mget oth w=some k→(k,w)∈P
  to_:∀a w,(a,w)∈P→∃k,mget oth w=some k
  pos:∀a w,(a,w)∈P→0≤a
  lim:∀a w,(a,w)∈P→a≤1099511627776
theorem UInv.nil:UInv [] [] []:=by
  refine ⟨fun k p h=>(by cases h),fun a b h0 h1=> ?_,fun w k h=>(by cases h),fun a w h=>(by cases h),fun a w h=>(by cases h),fun a w h=>(by cases h)⟩
  rw [find_none rfl,find_none rfl]
  constructor
  · rintro rfl;exact .refl _
  · intro h; cases h with
    |refl=>rfl
    |step _ h1 _=>cases h1
def ustep (s:List (Int×Int)×List (Int×Int)) (q:Int×Int):List (Int×Int)×List (Int×Int):=
  ((if (mget s.2 q.2).isSome then joinU s.1 q.1 ((mget s.2 q.2).getD 0) else s.1),mput s.2 q.2 q.1)
theorem UInv.step {P u oth:List (Int×Int)} (h:UInv P u oth) {i w:Int} (hi:0≤i) (hl:i≤1099511627776):UInv (P++[(i,w)]) (ustep (u,oth) (i,w)).1 (ustep (u,oth) (i,w)).2:=by
  unfold ustep
  simp only
  have hto:∀a w',(a,w')∈P++[(i,w)]→∃k,mget (mput oth w i) w'=some k:=fun a w' hm=>by
    rw [mget_mput]
    by_cases e:w=w'
    · exact ⟨i,by simp [e]⟩
    · rw [if_neg e]
      rcases List.mem_append.1 hm with hm|hm
      · exact h.to_ a w' hm
      · simp at hm;exact absurd hm.2.symm e
  have hfr:∀w' k,mget (mput oth w i) w'=some k→(k,w')∈P++[(i,w)]:=fun w' k hm=>by
    rw [mget_mput] at hm
    split at hm
    · rename_i e;cases hm;subst e;simp
    · exact List.mem_append_left _ (h.from_ _ _ hm)
  have hpos:∀a w',(a,w')∈P++[(i,w)]→0≤a:=fun a w' hm=>by
    rcases List.mem_append.1 hm with hm|hm
    · exact h.pos a w' hm
    · simp at hm;omega
  have hlim:∀a w',(a,w')∈P++[(i,w)]→a≤1099511627776:=fun a w' hm=>by
    rcases List.mem_append.1 hm with hm|hm
    · exact h.lim a w' hm
    · simp at hm;omega
  cases hm:mget oth w with
  |none=>
    simp only [Option.isSome_none,Bool.false_eq_true,if_false]
    refine ⟨h.ok,fun a b h0 h1=> ?_,hfr,hto,hpos,hlim⟩
    rw [h.conn a b h0 h1]
    refine ⟨fun c=>c.mono (fun x hx=>List.mem_append_left _ hx),fun c=> ?_⟩
    clear h1
    induction c with
    |refl=>exact .refl _
    |step _ h3 h4 ih=>
      rename_i b' c' w' hc
      have key:∀x,(x,w')∈P++[(i,w)]→w'=w→x=i:=fun x hx e=>by
        rcases List.mem_append.1 hx with hx1|hx1
        · obtain ⟨k, hk⟩ := h.to_ _ _ hx1
          rw [e,hm] at hk;cases hk
        · simp at hx1;exact hx1.1
      by_cases e:w'=w
      · rw [key _ h4 e,←key _ h3 e];exact ih
      · have side:∀x,(x,w')∈P++[(i,w)]→(x,w')∈P:=fun x hx=>by
          rcases List.mem_append.1 hx with hx|hx
          · exact hx
          · simp at hx;exact absurd hx.2 e
        exact .step ih (side _ h3) (side _ h4)
  |some k=>
    have hkP:=h.from_ _ _ hm
    have hk:=h.pos _ _ hkP
    simp only [Option.isSome_some,if_true,Option.getD_some]
    refine ⟨joinU_ok h.ok hi hk,fun a b h0 h1=> ?_,hfr,hto,hpos,hlim⟩
    have hP':∀x∈P,x∈P++[(i,w)]:=fun x hx=>List.mem_append_left _ hx
    have hik:Conn (P++[(i,w)]) i k:= .step (.refl _) (by simp) (hP' _ hkP)
    rw [find_join h.ok hi hk a h0,find_join h.ok hi hk b h1]
    have hC:∀x y,0≤x→0≤y→find u x=find u y→Conn (P++[(i,w)]) x y:=fun x y hx hy e=>((h.conn x y hx hy).1 e).mono hP'
    constructor
    · intro e
      have hin:∀x,0≤x→find u x=max (find u i) (find u k)→Conn (P++[(i,w)]) x i:=fun x hx e=>by
        rcases Int.le_total (find u i) (find u k) with hle|hle
        · exact (hC x k hx hk (by omega)).trans hik.symm
        · exact hC x i hx hi (by omega)
      have hin2:∀x,0≤x→find u x=min (find u i) (find u k)→Conn (P++[(i,w)]) x i:=fun x hx e=>by
        rcases Int.le_total (find u i) (find u k) with hle|hle
        · exact hC x i hx hi (by omega)
        · exact (hC x k hx hk (by omega)).trans hik.symm
      split at e
      · rename_i e1
        split at e
        · rename_i e2;exact (hin a h0 e1).trans (hin b h1 e2).symm
        · exact (hin a h0 e1).trans (hin2 b h1 e.symm).symm
      · split at e
        · rename_i e2;exact (hin2 a h0 e).trans (hin b h1 e2).symm
        · exact hC a b h0 h1 e
    · intro c
      -- the new classes hold each step
      have hstep:∀x y w',(x,w')∈P++[(i,w)]→(y,w')∈P++[(i,w)]→(find u x=find u y∨((find u x=find u i∨find u x=find u k)∧(find u y=find u i∨find u y=find u k))):=fun x y w' hx hy=>by
        by_cases e:w'=w
        · right
          have key:∀z,(z,w')∈P++[(i,w)]→(find u z=find u i∨find u z=find u k):=fun z hz=>by
            rcases List.mem_append.1 hz with hz1|hz1
            · right; rw [e] at hz1
              exact (h.conn z k (h.pos _ _ hz1) hk).2 (.step (.refl _) hz1 hkP)
            · simp at hz1;left;rw [hz1.1]
          exact ⟨key x hx,key y hy⟩
        · left
          have side:∀z,(z,w')∈P++[(i,w)]→(z,w')∈P:=fun z hz=>by
            rcases List.mem_append.1 hz with hz|hz
            · exact hz
            · simp at hz;exact absurd hz.2 e
          exact (h.conn x y (h.pos _ _ (side x hx)) (h.pos _ _ (side y hy))).2 (.step (.refl _) (side x hx) (side y hy))
      clear h1
      induction c with
      |refl=>rfl
      |step _ h3 h4 ih=>
        rw [ih]
        have:=hstep _ _ _ h3 h4
        split <;> split <;> omega
def pairs (F:List V3) (v:Int) (l:List Int):List (Int×Int):=
  l.flatMap fun i=>([(F.getD i.toNat (0,0,0)).1,(F.getD i.toNat (0,0,0)).2.1,(F.getD i.toNat (0,0,0)).2.2].filter (fun w=>w≠v)).map (fun w=>(i,w))
def star (F:List V3) (v:Int) (l:List Int):List (Int×Int)×List (Int×Int):=(pairs F v l).foldl ustep ([],[])
theorem UInv.foldl:∀{Q P u oth:List (Int×Int)},UInv P u oth→(∀q∈Q,0≤q.1∧q.1≤1099511627776)→UInv (P++Q) (Q.foldl ustep (u,oth)).1 (Q.foldl ustep (u,oth)).2
  |[],P,u,oth,h,_=>by simpa using h
  |q :: Q,P,u,oth,h,hq=>by
    have:=UInv.foldl (Q:=Q) (h.step (i:=q.1) (w:=q.2) (hq q (by simp)).1 (hq q (by simp)).2) (fun x hx=>hq x (List.mem_cons_of_mem _ hx))
    rw [List.append_assoc] at this
    exact this
theorem pairs_pos {F:List V3} {v:Int} {l:List Int} (hl:∀i∈l,0≤i∧i≤1099511627776):∀q∈pairs F v l,0≤q.1∧q.1≤1099511627776:=fun q hq=>by
  unfold pairs at hq
  simp only [List.mem_flatMap,List.mem_map] at hq
  obtain ⟨i,hi,w,hw,rfl⟩:=hq
  exact hl i hi
theorem star_inv {F:List V3} {v:Int} {l:List Int} (hl:∀i∈l,0≤i∧i≤1099511627776):UInv (pairs F v l) (star F v l).1 (star F v l).2:=by
  have:=UInv.foldl (Q:=pairs F v l) UInv.nil (pairs_pos hl)
  exact this
def starB (F:List V3) (v:Int) (l:List Int):Bool:=l.all fun i=>decide (find (star F v l).1 i=find (star F v l).1 (l.getD 0 0))
theorem starB_iff {F:List V3} {v:Int} {l:List Int} (hl:∀i∈l,0≤i∧i≤1099511627776):starB F v l=true↔∀i∈l,∀j∈l,Conn (pairs F v l) i j:=by
  have hI:=star_inv (F:=F) (v:=v) hl
  unfold starB
  rw [List.all_eq_true]
  cases l with
  |nil=>simp
  |cons a t=>
    have ha:=(hl a (by simp)).1
    simp only [decide_eq_true_eq]
    constructor
    · intro h i hi j hj
      have h1:=h i hi
      have h2:=h j hj
      exact (hI.conn i j (hl i hi).1 (hl j hj).1).1 (h1.trans h2.symm)
    · intro h i hi
      exact (hI.conn i _ (hl i hi).1 (by simpa using ha)).2 (by simpa using h i hi a (by simp))
def edges3 (f:V3):List (Int×Int):=[(f.1,f.2.1),(f.2.1,f.2.2),(f.2.2,f.1)]
def all (F:List V3):List (Int×Int):=F.flatMap edges3
theorem all_snoc (F:List V3) (f:V3):all (F++[f])=all F++edges3 f:=by simp [all]
def srcsF:Nat→List V3→List (Int×Int)
  |_,[]=>[]
  |i,f :: l=>(f.1,(i:Int)) :: (f.2.1,(i:Int)) :: (f.2.2,(i:Int)) :: srcsF (i+1) l
def srcs (F:List V3):List (Int×Int):=srcsF 0 F
theorem srcsF_snoc:∀(F:List V3) (i:Nat) (f:V3),srcsF i (F++[f])=srcsF i F++[(f.1,((i+F.length:Nat):Int)),(f.2.1,((i+F.length:Nat):Int)),(f.2.2,((i+F.length:Nat):Int))]
  |[],i,f=>by simp [srcsF]
  |g :: l,i,f=>by
    have:=srcsF_snoc l (i+1) f
    simp only [List.cons_append,srcsF,this,List.length_cons]
    rw [show i+1+l.length=i+(l.length+1) by omega]
theorem srcs_snoc (F:List V3) (f:V3):srcs (F++[f])=srcs F++[(f.1,(F.length:Int)),(f.2.1,(F.length:Int)),(f.2.2,(F.length:Int))]:=by
  unfold srcs;rw [srcsF_snoc];simp
def sel (S:List (Int×Int)) (v:Int):List Int:=(S.filter (fun q=>q.1=v)).map (·.2)
def at_ (F:List V3) (v:Int):List Int:=sel (srcs F) v
theorem sel_snoc (S:List (Int×Int)) (w v i:Int):sel (S++[(w,i)]) v=if w=v then sel S v++[i] else sel S v:=by
  unfold sel
  rw [List.filter_append,List.map_append]
  by_cases h:w=v <;> simp [h]
theorem srcsF_mem:∀{F:List V3} {k:Nat} {q:Int×Int},q∈srcsF k F→(k:Int)≤q.2∧q.2<((k+F.length:Nat):Int)
  |[],k,q,h=>by cases h
  |f :: l,k,q,h=>by
    simp only [srcsF,List.mem_cons] at h
    simp only [List.length_cons]
    rcases h with rfl|rfl|rfl|h
    · exact ⟨Int.le_refl _,by simp only;omega⟩
    · exact ⟨Int.le_refl _,by simp only;omega⟩
    · exact ⟨Int.le_refl _,by simp only;omega⟩
    · have:=srcsF_mem h;omega
theorem at_mem {F:List V3} {v i:Int} (h:i∈at_ F v):0≤i∧i<(F.length:Int):=by
  unfold at_ sel at h
  simp only [List.mem_map,List.mem_filter] at h
  obtain ⟨q,⟨hq,_⟩,rfl⟩:=h
  have:=srcsF_mem hq
  omega
theorem sel_le' (S:List (Int×Int)) (v:Int):(sel S v).length≤S.length:=by unfold sel;rw [List.length_map];exact List.length_filter_le _ _
theorem srcsF_len:∀(F:List V3) (i:Nat),(srcsF i F).length=3*F.length
  |[],_=>rfl
  |f :: l,i=>by simp only [srcsF,List.length_cons,srcsF_len l (i+1)];omega
theorem srcs_len (F:List V3):(srcs F).length=3*F.length:=srcsF_len F 0
theorem at_len (F:List V3) (v:Int):(at_ F v).length≤3*F.length:=by
  have:=sel_le' (srcs F) v
  rw [srcs_len] at this;exact this
def check (V F:List V3):Int:=if form V F≠0 then form V F else if (all F).Nodup then (if (List.range V.length).all (fun v=>starB F v (at_ F v)) then 0 else 11) else 7
open Go.Proofs.Ytalfgjpbbongcaa.Sp (RW ov)
def Seen (m:List ((Int×Int)×Bool)) (A:List (Int×Int)):Prop:=∀e,(mget m e).getD false=decide (e∈A)
theorem Seen.nil:Seen [] []:=fun e=>rfl
theorem Seen.step {m:List ((Int×Int)×Bool)} {A:List (Int×Int)} (h:Seen m A) (a:Int×Int):Seen (mput m a true) (A++[a]):=fun e=>by
  rw [mget_mput]
  by_cases hc:a=e
  · subst hc;simp
  · have hc' : ¬ e = a := fun x => hc x.symm
    rw [if_neg hc,h e];simp [hc']
theorem Seen.no {m:List ((Int×Int)×Bool)} {A:List (Int×Int)} (h:Seen m A) {e:Int×Int} (hf:(mget m e).getD false=false):e ∉ A:=fun hm=>by
  have:=h e
  rw [hf] at this
  simp [hm] at this
structure RowsAre (zs:List (RW Int)) (n:Nat) (S:List (Int×Int)):Prop where
  len:zs.length=n
  rows:∀v:Nat,v<n→(zs.getD v (none,0,[])).2.2=sel S (v:Int)
theorem RowsAre.nil (n:Nat):RowsAre (List.replicate n (none,0,[])) n []:=⟨by simp,fun v h=>by simp [List.getD,h,sel]⟩
theorem sel_le (S:List (Int×Int)) (v:Int):(sel S v).length≤S.length:=by unfold sel;rw [List.length_map];exact List.length_filter_le _ _
theorem RowsAre.at {zs:List (RW Int)} {n:Nat} {S:List (Int×Int)} (h:RowsAre zs n S) {j:Nat} {p:Option Go.Addr} {c:Nat} {l:List Int} (hz:zs[j]? =some (p,c,l)):l=sel S (j:Int)∧l.length≤S.length:=by
  have hj:=(List.getElem?_eq_some_iff.1 hz).1
  have:=h.rows j (by rw [← h.len];exact hj)
  simp only [List.getD,hz,Option.getD_some] at this
  exact ⟨this,by rw [this];exact sel_le _ _⟩
theorem RowsAre.step {zs:List (RW Int)} {n:Nat} {S:List (Int×Int)} (h:RowsAre zs n S) {w i:Int} (hw:0≤w) {p p':Option Go.Addr} {c c':Nat} {l:List Int} (hz:zs[w.toNat]? =some (p,c,l)):RowsAre (zs.set w.toNat (p',c',l++[i])) n (S++[(w,i)]):=by
  have hj:=(List.getElem?_eq_some_iff.1 hz).1
  refine ⟨by rw [List.length_set];exact h.len,fun v hv=> ?_⟩
  rw [sel_snoc]
  by_cases e:w=(v:Int)
  · have e' : w.toNat = v := by omega
    rw [if_pos e]
    subst e'
    simp only [List.getD,List.getElem?_set_self hj,Option.getD_some]
    rw [(h.at hz).1,show ((w.toNat:Nat):Int)=w by omega]
  · have e' : w.toNat ≠ v := by omega
    rw [if_neg e]
    simp only [List.getD,List.getElem?_set_ne e']
    exact h.rows v hv
theorem RowsAre.lists {zs:List (RW Int)} {n:Nat} {F:List V3} (h:RowsAre zs n (srcs F)):zs.map (fun z:RW Int=>z.2.2)=(List.range n).map (fun v:Nat=>at_ F (v:Int)):=by
  refine ext_getD [] (by simp [h.len]) fun j hj=> ?_
  have hj':j<zs.length:=by simpa using hj
  have hn:j<n:=by rw [← h.len];exact hj'
  have:=h.rows j hn
  simp only [List.getD,List.getElem?_map,List.getElem?_range hn,Option.map_some,Option.getD_some,List.getElem?_eq_getElem hj'] at this ⊢
  exact this
theorem rows_get {F:List V3} {n v:Nat} (h:v<n):((List.range n).map (fun v:Nat=>at_ F (v:Int))).getD v []=at_ F (v:Int):=by
  simp [List.getD,List.getElem?_range h]
theorem take_all {F:List V3} {i:Nat} (h:i<F.length):all (F.take (i+1))=all (F.take i)++[((F.getD i (0,0,0)).1,(F.getD i (0,0,0)).2.1)]++[((F.getD i (0,0,0)).2.1,(F.getD i (0,0,0)).2.2)]++[((F.getD i (0,0,0)).2.2,(F.getD i (0,0,0)).1)]:=by
  rw [take_snoc (0,0,0) h,all_snoc];simp [edges3]
theorem take_srcs {F:List V3} {i:Nat} (h:i<F.length):srcs (F.take (i+1))=srcs (F.take i)++[((F.getD i (0,0,0)).1,(i:Int))]++[((F.getD i (0,0,0)).2.1,(i:Int))]++[((F.getD i (0,0,0)).2.2,(i:Int))]:=by
  rw [take_snoc (0,0,0) h,srcs_snoc,List.length_take,show min i F.length=i by omega];simp
theorem all_prefix {F:List V3} (i:Nat):∃B,all F=all (F.take i)++B:=⟨all (F.drop i),by unfold all;rw [← List.flatMap_append,List.take_append_drop]⟩
theorem check_bad {V F:List V3} (h:form V F≠0):check V F=form V F:=by unfold check;rw [if_pos h]
theorem check_dup {V F:List V3} (h:form V F=0) (h2:¬(all F).Nodup):check V F=7:=by unfold check;rw [if_neg (by simpa using h),if_neg h2]
theorem not_nodup {A:List (Int×Int)} {e:Int×Int} {B:List (Int×Int)} (h:e∈A):¬(A++e :: B).Nodup:=fun hn=>by
  have:=(List.nodup_append.1 hn).2.2 e h e (by simp)
  exact this rfl
theorem nodup_step {A:List (Int×Int)} {e:Int×Int} (h:A.Nodup) (h2:e ∉ A):(A++[e]).Nodup:=List.nodup_append.2 ⟨h,by simp,fun a ha b hb=>by simp at hb;subst hb;exact fun x=>h2 (x ▸ ha)⟩
theorem dup_at {V F:List V3} (hf:form V F=0) {i:Nat} (hi:i<F.length) {A B:List (Int×Int)} {e:Int×Int} (hA:all (F.take (i+1))=A++e :: B) {m:List ((Int×Int)×Bool)} (hs:Seen m A) (h:(mget m e).getD false=true):check V F=7:=by
  refine check_dup hf ?_
  obtain ⟨C,hC⟩:=all_prefix (F:=F) (i+1)
  rw [hC,hA,List.append_assoc]
  refine not_nodup ?_
  have:=hs e
  rw [h] at this
  simpa using this.symm
theorem check_star {V F:List V3} (hf:form V F=0) (hn:(all F).Nodup) {v:Nat} (hv:v<V.length) (h:starB F v (at_ F v)=false):check V F=11:=by
  unfold check
  rw [if_neg (by simpa using hf),if_pos hn,if_neg]
  intro ha
  rw [List.all_eq_true] at ha
  have:=ha v (List.mem_range.2 hv)
  rw [h] at this;cases this
theorem check_ok {V F:List V3} (hf:form V F=0) (hn:(all F).Nodup) (h:∀v,v<V.length→starB F (v:Int) (at_ F v)=true):check V F=0:=by
  unfold check
  rw [if_neg (by simpa using hf),if_pos hn,if_pos]
  rw [List.all_eq_true]
  intro v hv
  exact h v (List.mem_range.1 hv)
def mrk (v i w:Int):List (Int×Int):=if w=v then [] else [(i,w)]
theorem pairs_snoc {F:List V3} {v:Int} (l:List Int) (i:Int):pairs F v (l++[i])=pairs F v l++mrk v i (F.getD i.toNat (0,0,0)).1++mrk v i (F.getD i.toNat (0,0,0)).2.1++mrk v i (F.getD i.toNat (0,0,0)).2.2:=by
  unfold pairs mrk
  simp only [List.flatMap_append,List.flatMap_cons,List.flatMap_nil,List.append_nil,List.filter_cons,List.filter_nil]
  generalize F.getD i.toNat (0,0,0)=f
  by_cases h1:f.1=v <;> by_cases h2:f.2.1=v <;> by_cases h3:f.2.2=v <;> simp [h1,h2,h3]
theorem UInv.skip {P u oth:List (Int×Int)} (h:UInv P u oth) {v i w:Int} (e:w=v):UInv (P++mrk v i w) u oth:=by unfold mrk;rw [if_pos e,List.append_nil];exact h
theorem UInv.hit {P u oth:List (Int×Int)} (h:UInv P u oth) {v i w:Int} (hi:0≤i∧i≤1099511627776) (e:¬w=v) (hs:(mget oth w).isSome=true):UInv (P++mrk v i w) (joinU u i ((mget oth w).getD 0)) (mput oth w i):=by
  unfold mrk;rw [if_neg e]
  have:=h.step (i:=i) (w:=w) hi.1 hi.2
  unfold ustep at this
  simpa [hs] using this
theorem UInv.miss {P u oth:List (Int×Int)} (h:UInv P u oth) {v i w:Int} (hi:0≤i∧i≤1099511627776) (e:¬w=v) (hs:(mget oth w).isSome=false):UInv (P++mrk v i w) u (mput oth w i):=by
  unfold mrk;rw [if_neg e]
  have:=h.step (i:=i) (w:=w) hi.1 hi.2
  unfold ustep at this
  simpa [hs] using this
theorem UInv.kpos {P u oth:List (Int×Int)} (h:UInv P u oth) {w:Int} (hs:(mget oth w).isSome=true):0≤(mget oth w).getD 0∧(mget oth w).getD 0≤1099511627776:=by
  cases hm:mget oth w with
  |none=>rw [hm] at hs;cases hs
  |some k=>exact ⟨h.pos _ _ (h.from_ _ _ hm),h.lim _ _ (h.from_ _ _ hm)⟩
theorem UInv.star_true {F:List V3} {v:Int} {u oth:List (Int×Int)} (h:UInv (pairs F v (at_ F v)) u oth) (hF:F.length≤1024) (ha:∀j,j<(at_ F v).length→find u ((at_ F v).getD j 0)=find u ((at_ F v).getD 0 0)):starB F v (at_ F v)=true:=by
  have hl:∀i∈at_ F v,0≤i∧i≤1099511627776:=fun i hi=>⟨(at_mem hi).1,by have:=(at_mem hi).2;omega⟩
  refine (starB_iff hl).2 fun i hi j hj=> ?_
  obtain ⟨a,ha1,rfl⟩:=mem_getD 0 hi
  obtain ⟨b,hb1,rfl⟩:=mem_getD 0 hj
  exact (h.conn _ _ (hl _ hi).1 (hl _ hj).1).1 ((ha a ha1).trans (ha b hb1).symm)
theorem UInv.star_false {F:List V3} {v:Int} {u oth:List (Int×Int)} (h:UInv (pairs F v (at_ F v)) u oth) (hF:F.length≤1024) {j:Nat} (hj:j<(at_ F v).length) (ha:¬find u ((at_ F v).getD j 0)=find u ((at_ F v).getD 0 0)):starB F v (at_ F v)=false:=by
  have hl:∀i∈at_ F v,0≤i∧i≤1099511627776:=fun i hi=>⟨(at_mem hi).1,by have:=(at_mem hi).2;omega⟩
  cases hs:starB F v (at_ F v) with
  |false=>rfl
  |true=>
    have h1:=getD_mem 0 hj
    have h0:=getD_mem (l:=at_ F v) (i:=0) 0 (by omega)
    exact absurd ((h.conn _ _ (hl _ h1).1 (hl _ h0).1).2 ((starB_iff hl).1 hs _ h1 _ h0)) ha
theorem at_getD {F:List V3} {v:Int} {j:Nat} (h:j<(at_ F v).length):0≤(at_ F v).getD j 0∧(at_ F v).getD j 0<(F.length:Int):=at_mem (getD_mem 0 h)
end Go.Proofs.Ytalfgjpbbongcaa.Ms
namespace Go.Proofs.Ytalfgjpbbongcaa.Ms
open Go.Proofs.Ytalfgjpbbongcaa.Sp (mget mput mget_mput mput_keys mput_nodup mget_isSome)
set_option linter.unusedVariables false
section
variable {α : Type} [DecidableEq α]
def count (l:List α) (e:α):Nat:=l.countP (fun x=>decide (x=e))
theorem count_snoc (l:List α) (x e:α):count (l++[x]) e=count l e+(if x=e then 1 else 0):=by
  unfold count;rw [List.countP_append]
  by_cases h:x=e <;> simp [h]
theorem count_pos {l:List α} {e:α}:0<count l e↔e∈l:=by
  unfold count;rw [List.countP_pos_iff];simp
theorem nodup_count:∀{l:List α},(∀e∈l,count l e≤1)↔l.Nodup
  |[]=>by simp
  |x :: l=>by
    have ih:=nodup_count (l:=l)
    have hc:∀e,count (x :: l) e=count l e+(if x=e then 1 else 0):=fun e=>by
      unfold count;rw [List.countP_cons];simp
    rw [List.nodup_cons,←ih]
    constructor
    · intro h
      have hx:=h x (by simp)
      rw [hc,if_pos rfl] at hx
      refine ⟨fun hm=>by have:=count_pos.2 hm;omega,fun e he=> ?_⟩
      have:=h e (by simp [he])
      rw [hc] at this;omega
    · rintro ⟨h1, h2⟩ e he
      rw [hc]
      by_cases hxe:x=e
      · subst hxe
        have:count l x=0:=by
          have:=mt count_pos.1 h1;omega
        simp [this]
      · rw [if_neg hxe]
        have:e∈l:=by
          rcases List.mem_cons.1 he with h|h
          · exact absurd h.symm hxe
          · exact h
        have:=h2 e this;omega
theorem len_of_sub:∀{K l:List α},K.Nodup→(∀a∈K,a∈l)→K.length≤l.length
  |[],_,_,_=>by simp
  |a :: K,l,hn,hs=>by
    have ha:=hs a (by simp)
    have hn':=List.nodup_cons.1 hn
    have:=len_of_sub (K:=K) (l:=l.erase a) hn'.2 (fun b hb=>(List.mem_erase_of_ne (fun e=>hn'.1 (by rw [← e];exact hb))).2 (hs b (List.mem_cons_of_mem _ hb)))
    rw [List.length_erase_of_mem ha] at this
    have:=List.length_pos_of_mem ha
    simp only [List.length_cons];omega
theorem sub_iff_len {K l:List α} (hK:K.Nodup) (hl:l.Nodup) (hs:∀a∈K,a∈l):(∀b∈l,b∈K)↔¬K.length<l.length:=by
  constructor
  · intro h
    have:=len_of_sub hl h;omega
  · intro h b hb
    refine Decidable.byContradiction fun hn=>h ?_
    have:=len_of_sub (K:=b :: K) (l:=l) (List.nodup_cons.2 ⟨hn,hK⟩) (fun a ha=>by
      rcases List.mem_cons.1 ha with rfl|ha
      · exact hb
      · exact hs a ha)
    simp only [List.length_cons] at this;omega
end
inductive Reach (near:Int→Int→Prop) (l:List Int):Int→Int→Prop
  |refl (a:Int):Reach near l a a
  |step {a b c:Int}:Reach near l a b→c∈l→near b c→Reach near l a c
structure Marks (m:List (Int×Bool)) (K:List Int):Prop where
  get:∀e,(mget m e).getD false=decide (e∈K)
  len:m.length=K.length
  nodup:K.Nodup
  keys:m.map (·.1)=K
theorem Marks.nil:Marks [] []:=⟨fun e=>rfl,rfl,by simp,rfl⟩
theorem Marks.step {m:List (Int×Bool)} {K:List Int} (h:Marks m K) {a:Int} (ha:a ∉ K):Marks (mput m a true) (K++[a]):=by
  have hk:(mput m a true).map (·.1)=K++[a]:=by rw [mput_keys,h.keys,if_neg ha]
  refine ⟨fun e=> ?_,by rw [← List.length_map (f:=(·.1)),hk],List.nodup_append.2 ⟨h.nodup,by simp,fun x hx y hy=>by simp at hy;subst hy;exact fun e=>ha (e ▸ hx)⟩,hk⟩
  rw [mget_mput]
  by_cases hc:a=e
  · subst hc;simp
  · have hc' : ¬ e = a := fun x => hc x.symm
    rw [if_neg hc,h.get e];simp [hc']
theorem Marks.no {m:List (Int×Bool)} {K:List Int} (h:Marks m K) {e:Int} (hf:(mget m e).getD false=false):e ∉ K:=fun hm=>by
  have:=h.get e
  rw [hf] at this;simp [hm] at this
theorem Marks.yes {m:List (Int×Bool)} {K:List Int} (h:Marks m K) {e:Int} (hf:(mget m e).getD false=true):e∈K:=by
  have:=h.get e
  rw [hf] at this;simpa using this.symm
structure SpI (near:Int→Int→Prop) (l K td:List Int):Prop where
  sub:∀a∈K,a∈l
  tsub:∀a∈td,a∈l
  reach:∀a∈K,Reach near l (l.getD 0 0) a
  treach:∀a∈td,Reach near l (l.getD 0 0) a
  closed:∀a∈K,∀b∈l,near a b→b∈K∨b∈td
  first:l.getD 0 0∈K∨l.getD 0 0∈td
theorem SpI.start {near:Int→Int→Prop} {l:List Int} (h:0<l.length):SpI near l [] (l.take 1):=by
  cases l with
  |nil=>simp at h
  |cons a t=>exact ⟨fun b hb=>(by cases hb),fun b hb=>by simp at hb;subst hb;simp,fun b hb=>(by cases hb),fun b hb=>by simp at hb;subst hb;exact .refl _,fun b hb=>(by cases hb),.inr (by simp)⟩
theorem SpI.skip {near:Int→Int→Prop} {l K td:List Int} (h:SpI near l K td) (h0:0<td.length) (hm:td.getD 0 0∈K):SpI near l K (td.drop 1):=by
  cases td with
  |nil=>simp at h0
  |cons a t=>
    simp only [List.getD_cons_zero,List.drop_succ_cons,List.drop_zero] at*
    refine ⟨h.sub,fun b hb=>h.tsub b (List.mem_cons_of_mem _ hb),h.reach,fun b hb=>h.treach b (List.mem_cons_of_mem _ hb),fun b hb c hc hn=> ?_,?_⟩
    · rcases h.closed b hb c hc hn with h1 | h1
      · exact .inl h1
      · rcases List.mem_cons.1 h1 with rfl | h1
        · exact .inl hm
        · exact .inr h1
    · rcases h.first with h1 | h1
      · exact .inl h1
      · rcases List.mem_cons.1 h1 with e | h1
        · exact .inl (by rw [e];exact hm)
        · exact .inr h1
def pushed (near:Int→Int→Bool) (K:List Int) (a:Int) (l:List Int):List Int:=l.filter (fun b=> !(decide (b∈K))&&near a b)
theorem SpI.round {near:Int→Int→Bool} {l K td:List Int} (h:SpI (fun a b=>near a b=true) l K td) (h0:0<td.length):SpI (fun a b=>near a b=true) l (K++[td.getD 0 0]) (td.drop 1++pushed near (K++[td.getD 0 0]) (td.getD 0 0) l):=by
  cases td with
  |nil=>simp at h0
  |cons a t=>
    simp only [List.getD_cons_zero,List.drop_succ_cons,List.drop_zero] at*
    have ha:=h.tsub a (by simp)
    have hra:=h.treach a (by simp)
    refine ⟨fun b hb=> ?_,fun b hb=> ?_,fun b hb=> ?_,fun b hb=> ?_,fun b hb c hc hn=> ?_,?_⟩
    · rcases List.mem_append.1 hb with h1 | h1
      · exact h.sub b h1
      · simp at h1;subst h1;exact ha
    · rcases List.mem_append.1 hb with h1 | h1
      · exact h.tsub b (List.mem_cons_of_mem _ h1)
      · exact (List.mem_filter.1 h1).1
    · rcases List.mem_append.1 hb with h1 | h1
      · exact h.reach b h1
      · simp at h1;subst h1;exact hra
    · rcases List.mem_append.1 hb with h1 | h1
      · exact h.treach b (List.mem_cons_of_mem _ h1)
      · have h2 := List.mem_filter.1 h1
        simp only [Bool.and_eq_true] at h2
        exact .step hra h2.1 h2.2.2
    · by_cases hcK : c ∈ K ++ [a]
      · exact .inl hcK
      · refine .inr ?_
        rcases List.mem_append.1 hb with h1|h1
        · rcases h.closed b h1 c hc hn with h2 | h2
          · exact absurd (List.mem_append_left _ h2) hcK
          · rcases List.mem_cons.1 h2 with rfl | h2
            · exact absurd (by simp) hcK
            · exact List.mem_append_left _ h2
        · simp at h1; subst h1
          refine List.mem_append_right _ (List.mem_filter.2 ⟨hc,?_⟩)
          simp only [Bool.and_eq_true,Bool.not_eq_true',decide_eq_false_iff_not]
          exact ⟨hcK,hn⟩
    · rcases h.first with h1 | h1
      · exact .inl (List.mem_append_left _ h1)
      · rcases List.mem_cons.1 h1 with e | h1
        · exact .inl (by rw [e];simp)
        · exact .inr (List.mem_append_left _ h1)
theorem pushed_snoc (near:Int→Int→Bool) (K:List Int) (a:Int) (l:List Int) (b:Int):pushed near K a (l++[b])=if ¬b∈K∧near a b=true then pushed near K a l++[b] else pushed near K a l:=by
  unfold pushed
  rw [List.filter_append]
  by_cases h:b∈K <;> by_cases h2:near a b=true <;> simp [h,h2]
theorem pushed_len (near:Int→Int→Bool) (K:List Int) (a:Int) (l:List Int):(pushed near K a l).length≤l.length:=List.length_filter_le _ _
structure Spread (near:Int→Int→Prop) (l K:List Int):Prop where
  nodup:K.Nodup
  sub:∀a∈K,a∈l
  all:∀a,a∈K↔Reach near l (l.getD 0 0) a
theorem SpI.fin {near:Int→Int→Prop} {l K:List Int} (h:SpI near l K []) (hn:K.Nodup):Spread near l K:=by
  refine ⟨hn,h.sub,fun a=>⟨h.reach a,fun hr=> ?_⟩⟩
  induction hr with
  |refl=>simpa using h.first
  |step _ hc hn ih=>simpa using h.closed _ ih _ hc hn
theorem sp_mu {l K td:List Int} (hn:K.Nodup) {near:Int→Int→Prop} (h:SpI near l K td):K.length≤l.length:=len_of_sub hn h.sub
theorem at_take {F:List V3} {v:Int} {i:Nat} (h:i<F.length) (hd:deg (F.getD i (0,0,0))=false):at_ (F.take (i+1)) v=if hasV (F.getD i (0,0,0)) v=true then at_ (F.take i) v++[(i:Int)] else at_ (F.take i) v:=by
  unfold at_
  rw [take_srcs h,sel_snoc,sel_snoc,sel_snoc]
  generalize F.getD i (0,0,0)=f at*
  simp only [deg,decide_eq_false_iff_not,hasV,decide_eq_true_eq] at*
  by_cases h1:f.1=v <;> by_cases h2:f.2.1=v <;> by_cases h3:f.2.2=v <;> simp [h1,h2,h3] <;> omega
theorem at_face {F:List V3} (hd:∀f∈F,deg f=false) {v:Int}:∀{k:Nat},k≤F.length→(∀i∈at_ (F.take k) v,0≤i∧i<(k:Int)∧hasV (F.getD i.toNat (0,0,0)) v=true)∧(at_ (F.take k) v).Nodup∧(∀i:Nat,i<k→hasV (F.getD i (0,0,0)) v=true→(i:Int)∈at_ (F.take k) v)
  |0,_=>by simp [at_,srcs,srcsF,sel]
  |k+1,hk=>by
    obtain ⟨h1,h2,h3⟩:=at_face hd (v:=v) (k:=k) (by omega)
    rw [at_take (by omega) (hd _ (getD_mem _ (by omega)))]
    by_cases hv:hasV (F.getD k (0,0,0)) v=true
    · rw [if_pos hv]
      refine ⟨fun i hi=> ?_,List.nodup_append.2 ⟨h2,by simp,fun x hx y hy=>by simp at hy;subst hy;have:=h1 x hx;omega⟩,fun i hi hh=> ?_⟩
      · rcases List.mem_append.1 hi with hi | hi
        · have:=h1 i hi;exact ⟨this.1,by omega,this.2.2⟩
        · simp at hi;subst hi;exact ⟨by omega,by omega,by simpa using hv⟩
      · by_cases e : i = k
        · subst e;simp
        · exact List.mem_append_left _ (h3 i (by omega) hh)
    · rw [if_neg hv]
      refine ⟨fun i hi=>by have:=h1 i hi;exact ⟨this.1,by omega,this.2.2⟩,h2,fun i hi hh=> ?_⟩
      by_cases e:i=k
      · subst e;exact absurd hh hv
      · exact h3 i (by omega) hh
theorem at_all {F:List V3} (hd:∀f∈F,deg f=false) {v:Int}:(∀i∈at_ F v,0≤i∧i<(F.length:Int)∧hasV (F.getD i.toNat (0,0,0)) v=true)∧(at_ F v).Nodup∧(∀i:Nat,i<F.length→hasV (F.getD i (0,0,0)) v=true→(i:Int)∈at_ F v):=by
  have:=at_face hd (v:=v) (k:=F.length) (Nat.le_refl _)
  rwa [List.take_length] at this
def nearF (F:List V3) (a b:Int):Bool:=decide (2≤common (F.getD a.toNat (0,0,0)) (F.getD b.toNat (0,0,0)))
theorem mem_pairs {F:List V3} {v:Int} {l:List Int} {i w:Int}:(i,w)∈pairs F v l↔i∈l∧hasV (F.getD i.toNat (0,0,0)) w=true∧w≠v:=by
  unfold pairs
  simp only [List.mem_flatMap,List.mem_map,List.mem_filter,List.mem_cons,List.not_mem_nil,or_false,decide_eq_true_eq,Prod.mk.injEq,hasV]
  constructor
  · rintro ⟨j, hj, w', ⟨h1, h2⟩, rfl, rfl⟩
    exact ⟨hj,by rcases h1 with h|h|h <;> simp [h],h2⟩
  · rintro ⟨h1, h2, h3⟩
    exact ⟨i,h1,w,⟨by rcases h2 with h|h|h;exact .inl h.symm;exact .inr (.inl h.symm);exact .inr (.inr h.symm),h3⟩,rfl,rfl⟩
theorem near_iff {f g:V3} (hf:deg f=false) {v:Int} (h1:hasV f v=true) (h2:hasV g v=true):2≤common f g↔∃w,w≠v∧hasV f w=true∧hasV g w=true:=by
  obtain ⟨x,y,z⟩:=f
  simp only [deg,decide_eq_false_iff_not] at hf
  have hfv:∀w,hasV (x,y,z) w=true↔x=w∨y=w∨z=w:=fun w=>by simp [hasV]
  have key:(∃w,w≠v∧hasV (x,y,z) w=true∧hasV g w=true)↔(x≠v∧hasV g x=true)∨(y≠v∧hasV g y=true)∨(z≠v∧hasV g z=true):=by
    constructor
    · rintro ⟨w, hw, h3, h4⟩
      rcases (hfv w).1 h3 with rfl|rfl|rfl
      · exact .inl ⟨hw,h4⟩
      · exact .inr (.inl ⟨hw,h4⟩)
      · exact .inr (.inr ⟨hw,h4⟩)
    · rintro (⟨hw, h⟩ | ⟨hw, h⟩ | ⟨hw, h⟩)
      · exact ⟨x,hw,(hfv x).2 (.inl rfl),h⟩
      · exact ⟨y,hw,(hfv y).2 (.inr (.inl rfl)),h⟩
      · exact ⟨z,hw,(hfv z).2 (.inr (.inr rfl)),h⟩
  rw [key]
  unfold common
  simp only
  rcases (hfv v).1 h1 with e|e|e
  · subst e
    have hy:y≠x:=fun h=>hf (.inl h.symm)
    have hz:z≠x:=fun h=>hf (.inr (.inr h))
    by_cases h3:hasV g y=true <;> by_cases h4:hasV g z=true <;> simp [h2,h3,h4,hy,hz]
  · subst e
    have hy:x≠y:=fun h=>hf (.inl h)
    have hz:z≠y:=fun h=>hf (.inr (.inl h.symm))
    by_cases h3:hasV g x=true <;> by_cases h4:hasV g z=true <;> simp [h2,h3,h4,hy,hz]
  · subst e
    have hy:x≠z:=fun h=>hf (.inr (.inr h.symm))
    have hz:y≠z:=fun h=>hf (.inr (.inl h))
    by_cases h3:hasV g x=true <;> by_cases h4:hasV g y=true <;> simp [h2,h3,h4,hy,hz]
theorem spread_star {F:List V3} (hd:∀f∈F,deg f=false) (hF:F.length≤1024) {v:Int} {K:List Int} (h:Spread (fun a b=>nearF F a b=true) (at_ F v) K):decide (((K.length:Nat):Int)<(((at_ F v).length:Nat):Int))= !starB F v (at_ F v):=by
  obtain ⟨ha,hnd,_⟩:=at_all hd (v:=v)
  have hl:∀i∈at_ F v,0≤i∧i≤1099511627776:=fun i hi=>⟨(ha i hi).1,by have:=(ha i hi).2.1;omega⟩
  have hnear:∀a∈at_ F v,∀b∈at_ F v,nearF F a b=true↔∃w,(a,w)∈pairs F v (at_ F v)∧(b,w)∈pairs F v (at_ F v):=fun a hma b hmb=>by
    unfold nearF
    have h1:=ha a hma
    have h2:=ha b hmb
    rw [decide_eq_true_iff,near_iff (hd _ (getD_mem _ (by omega))) h1.2.2 h2.2.2]
    constructor
    · rintro ⟨w,e1,e2,e3⟩;exact ⟨w,mem_pairs.2 ⟨hma,e2,e1⟩,mem_pairs.2 ⟨hmb,e3,e1⟩⟩
    · rintro ⟨w,e1,e2⟩;exact ⟨w,(mem_pairs.1 e1).2.2,(mem_pairs.1 e1).2.1,(mem_pairs.1 e2).2.1⟩
  have hRC:∀a b,a∈at_ F v→Reach (fun a b=>nearF F a b=true) (at_ F v) a b→Conn (pairs F v (at_ F v)) a b∧b∈at_ F v:=fun a b hma hr=>by
    induction hr with
    |refl=>exact ⟨.refl _,hma⟩
    |step _ hc hn ih=>
      obtain ⟨w,e1,e2⟩:=(hnear _ ih.2 _ hc).1 hn
      exact ⟨.step ih.1 e1 e2,hc⟩
  have hCR:∀a b,a∈at_ F v→Conn (pairs F v (at_ F v)) a b→Reach (fun a b=>nearF F a b=true) (at_ F v) a b:=fun a b hma hr=>by
    induction hr with
    |refl=>exact .refl _
    |step _ e1 e2 ih=>exact .step ih (mem_pairs.1 e2).1 ((hnear _ (mem_pairs.1 e1).1 _ (mem_pairs.1 e2).1).2 ⟨_,e1,e2⟩)
  have hiff:starB F v (at_ F v)=true↔∀b∈at_ F v,b∈K:=by
    rw [starB_iff hl]
    constructor
    · intro h1 b hb
      have h0:(at_ F v).getD 0 0∈at_ F v:=getD_mem 0 (List.length_pos_of_mem hb)
      exact (h.all b).2 (hCR _ _ h0 (h1 _ h0 _ hb))
    · intro h1 i hi j hj
      have h0:(at_ F v).getD 0 0∈at_ F v:=getD_mem 0 (List.length_pos_of_mem hi)
      exact ((hRC _ _ h0 ((h.all i).1 (h1 i hi))).1).symm.trans (hRC _ _ h0 ((h.all j).1 (h1 j hj))).1
  rw [sub_iff_len h.nodup hnd h.sub] at hiff
  by_cases hlt:K.length<(at_ F v).length
  · have h1:starB F v (at_ F v)=false:=by
      cases hs:starB F v (at_ F v) with
      |false=>rfl
      |true=>exact absurd hlt (hiff.1 hs)
    rw [h1];simp;omega
  · rw [hiff.2 hlt];simp;omega
theorem star_empty {F:List V3} {v:Int} (h:(at_ F v).length=0):starB F v (at_ F v)=true:=by
  rw [List.eq_nil_of_length_eq_zero h];rfl
end Go.Proofs.Ytalfgjpbbongcaa.Ms
namespace Go.Proofs.Ytalfgjpbbongcaa.Ms
theorem mu_dec {L K t t':Nat} (hK:K<L) (ht:t'+1≤t+L):(L - (K+1))*(L+1)+t'<(L - K)*(L+1)+t:=by
  have:L - K=(L - (K+1))+1:=by omega
  rw [this,Nat.succ_mul];omega
theorem td_len {L K t:Nat} (h:t≤1+K*L) (h0:0<t):t - 1+L≤1+(K+1)*L∧t - 1+L≤(K+1)*L:=by rw [Nat.succ_mul];omega
theorem count_le {α:Type} [DecidableEq α] (l:List α) (e:α):count l e≤l.length:=List.countP_le_length
theorem all_len (F:List V3):(all F).length=3*F.length:=by
  unfold all;induction F with
  |nil=>rfl
  |cons f l ih=>simp only [List.flatMap_cons,List.length_append,ih,edges3,List.length_cons,List.length_nil];omega
end Go.Proofs.Ytalfgjpbbongcaa.Ms
namespace Go.Proofs.Ytalfgjpbbongcaa.Ms
open Go.Proofs.Ytalfgjpbbongcaa.Sp (mget mput mget_mput mput_keys mput_nodup mget_isSome)
set_option linter.unusedVariables false
def allM (F:List V3):List ((Int×Int)×Bool):=(all F).foldl (fun m e=>mput m e true) []
theorem foldM_snoc {A:List (Int×Int)} {e:Int×Int}:(A++[e]).foldl (fun m e=>mput m e true) ([]:List ((Int×Int)×Bool))=mput (A.foldl (fun m e=>mput m e true) []) e true:=by rw [List.foldl_append];rfl
theorem allM_take {F:List V3} {i:Nat} (h:i<F.length):allM (F.take (i+1))=mput (mput (mput (allM (F.take i)) ((F.getD i (0,0,0)).1,(F.getD i (0,0,0)).2.1) true) ((F.getD i (0,0,0)).2.1,(F.getD i (0,0,0)).2.2) true) ((F.getD i (0,0,0)).2.2,(F.getD i (0,0,0)).1) true:=by
  unfold allM;rw [take_all h,foldM_snoc,foldM_snoc,foldM_snoc]
theorem mem_mput {κ ν:Type} [DecidableEq κ]:∀{m:List (κ×ν)} {a:κ} {v:ν} {p:κ×ν},p∈mput m a v→p=(a,v)∨p∈m
  |[],a,v,p,h=>by simp [mput] at h;exact .inl h
  |q :: m,a,v,p,h=>by
    simp only [mput] at h
    split at h
    · rcases List.mem_cons.1 h with h | h
      · exact .inl h
      · exact .inr (List.mem_cons_of_mem _ h)
    · rcases List.mem_cons.1 h with h | h
      · exact .inr (by rw [h];simp)
      · exact (mem_mput h).imp id (List.mem_cons_of_mem _)
theorem foldM_mem:∀{A:List (Int×Int)} {m:List ((Int×Int)×Bool)},(∀p∈m,p.2=true)→∀p∈A.foldl (fun m e=>mput m e true) m,p.2=true∧(p∈m∨p.1∈A)
  |[],m,h,p,hp=>⟨h p hp,.inl hp⟩
  |a :: A,m,h,p,hp=>by
    simp only [List.foldl_cons] at hp
    have:=foldM_mem (A:=A) (m:=mput m a true) (fun q hq=>by
      rcases mem_mput hq with e|e
      · rw [e]
      · exact h q e) p hp
    refine ⟨this.1,?_⟩
    rcases this.2 with h1|h1
    · rcases mem_mput h1 with e | e
      · right;rw [e];simp
      · exact .inl e
    · exact .inr (List.mem_cons_of_mem _ h1)
theorem foldM_seen:∀{A B:List (Int×Int)} {m:List ((Int×Int)×Bool)},Seen m B→Seen (A.foldl (fun m e=>mput m e true) m) (B++A)
  |[],B,m,h=>by simpa using h
  |a :: A,B,m,h=>by
    have:=foldM_seen (A:=A) (h.step a)
    simpa [List.append_assoc] using this
theorem allM_seen (F:List V3):Seen (allM F) (all F):=by simpa [allM] using foldM_seen (A:=all F) Seen.nil
theorem allM_mem {F:List V3} {p:(Int×Int)×Bool} (h:p∈allM F):p.1∈all F:=by
  have:=(foldM_mem (A:=all F) (m:=[]) (fun q hq=>by cases hq) p h).2
  rcases this with h|h
  · cases h
  · exact h
theorem mget_mem {κ ν:Type} [DecidableEq κ]:∀{m:List (κ×ν)} {a:κ} {v:ν},mget m a=some v→(a,v)∈m
  |[],_,_,h=>by cases h
  |q :: m,a,v,h=>by
    simp only [mget] at h
    split at h
    · rename_i e;cases h;subst e;simp
    · exact List.mem_cons_of_mem _ (mget_mem h)
theorem allM_of {F:List V3} {e:Int×Int} (h:e∈all F):∃b,(e,b)∈allM F:=by
  have h1:=allM_seen F e
  simp only [h,decide_true] at h1
  cases hm:mget (allM F) e with
  |none=>rw [hm] at h1;cases h1
  |some b=>exact ⟨b,mget_mem hm⟩
theorem all_rng {V F:List V3} (hg:Good V F) {e:Int×Int} (h:e∈all F):0≤e.1∧e.1<V.length∧0≤e.2∧e.2<V.length∧e.1≠e.2:=by
  unfold all at h
  obtain ⟨f,hf,he⟩:=List.mem_flatMap.1 h
  obtain ⟨i,hi,rfl⟩:=mem_getD (0,0,0) hf
  have:=hg.at hi
  simp only [edges3,List.mem_cons,List.not_mem_nil,or_false] at he
  rcases he with rfl|rfl|rfl <;> simp only <;> omega
def isB (F:List V3) (e:Int×Int):Prop:=e∈all F∧(e.2,e.1) ∉ all F
structure BPart (F:List V3) (vis:List ((Int×Int)×Bool)) (bm:List (Int×Int)):Prop where
  some_:∀v w,mget bm v=some w→isB F (v,w)∧∃q∈vis,q.1=(v,w)
  ex:∀q∈vis,isB F q.1→∃w,mget bm q.1.1=some w
  sub:∀q∈vis,q∈allM F
  nodup:(vis.map (·.1)).Nodup
theorem BPart.nil (F:List V3):BPart F [] []:=⟨fun v w h=>(by cases h),fun q h=>(by cases h),fun q h=>(by cases h),by simp⟩
theorem BPart.len {F:List V3} {vis:List ((Int×Int)×Bool)} {bm:List (Int×Int)} (h:BPart F vis bm):vis.length≤(allM F).length:=len_of_sub (by
  have:=h.nodup
  exact (List.pairwise_map.1 this).imp (fun hne e=>hne (by rw [e]))) h.sub
theorem BPart.push {F:List V3} {vis:List ((Int×Int)×Bool)} {bm:List (Int×Int)} (h:BPart F vis bm) {q:(Int×Int)×Bool} (hm:q∈allM F) (hn:q.1 ∉ vis.map (·.1)):((vis++[q]).map (·.1)).Nodup∧∀x∈vis++[q],x∈allM F:=by
  refine ⟨?_,fun x hx=> ?_⟩
  · rw [List.map_append]
    exact List.nodup_append.2 ⟨h.nodup,by simp,fun x hx y hy=>by simp at hy;subst hy;exact fun e=>hn (e ▸ hx)⟩
  · rcases List.mem_append.1 hx with hx | hx
    · exact h.sub x hx
    · simp at hx;rw [hx];exact hm
theorem BPart.hit {F:List V3} {vis:List ((Int×Int)×Bool)} {bm:List (Int×Int)} (h:BPart F vis bm) {q:(Int×Int)×Bool} (hm:q∈allM F) (hn:q.1 ∉ vis.map (·.1)) (hl:(!(mget (allM F) (q.1.2,q.1.1)).getD false)=true):BPart F (vis++[q]) (mput bm q.1.1 q.1.2):=by
  have hB:isB F q.1:=⟨allM_mem hm,fun hc=>by
    have:=allM_seen F (q.1.2,q.1.1)
    simp only [hc,decide_true] at this
    rw [this] at hl;cases hl⟩
  refine ⟨fun v w hg=> ?_,fun x hx hb=> ?_,(h.push hm hn).2,(h.push hm hn).1⟩
  · rw [mget_mput] at hg
    split at hg
    · rename_i e;cases hg;subst e;exact ⟨hB,q,by simp,rfl⟩
    · obtain ⟨h1, x, hx, h2⟩ := h.some_ v w hg
      exact ⟨h1,x,List.mem_append_left _ hx,h2⟩
  · rw [mget_mput]
    split
    · exact ⟨_,rfl⟩
    · rename_i hne
      rcases List.mem_append.1 hx with hx|hx
      · exact h.ex x hx hb
      · simp at hx;rw [hx] at hne;exact absurd rfl hne
theorem BPart.miss {F:List V3} {vis:List ((Int×Int)×Bool)} {bm:List (Int×Int)} (h:BPart F vis bm) {q:(Int×Int)×Bool} (hm:q∈allM F) (hn:q.1 ∉ vis.map (·.1)) (hl:(!(mget (allM F) (q.1.2,q.1.1)).getD false)=false):BPart F (vis++[q]) bm:=by
  refine ⟨fun v w hg=> ?_,fun x hx hb=> ?_,(h.push hm hn).2,(h.push hm hn).1⟩
  · obtain ⟨h1, x, hx, h2⟩ := h.some_ v w hg
    exact ⟨h1,x,List.mem_append_left _ hx,h2⟩
  · rcases List.mem_append.1 hx with hx | hx
    · exact h.ex x hx hb
    · simp at hx
      subst hx
      have:=allM_seen F (x.1.2,x.1.1)
      simp only [hb.2,decide_false] at this
      rw [this] at hl;cases hl
structure BMap (F:List V3) (bm:List (Int×Int)):Prop where
  some_:∀v w,mget bm v=some w→isB F (v,w)
  ex:∀v w,isB F (v,w)→∃w',mget bm v=some w'
theorem BPart.fin {F:List V3} {vis:List ((Int×Int)×Bool)} {bm:List (Int×Int)} (h:BPart F vis bm) (hp:vis.Perm (allM F)):BMap F bm:=⟨fun v w hg=>(h.some_ v w hg).1,fun v w hb=>by
  obtain ⟨b,hb'⟩:=allM_of hb.1
  exact h.ex _ (hp.mem_iff.2 hb') hb⟩
theorem BPart.mu {F:List V3} {vis:List ((Int×Int)×Bool)} {bm:List (Int×Int)} {q:(Int×Int)×Bool} (h:BPart F (vis++[q]) bm):(allM F).length - (vis++[q]).length<(allM F).length - vis.length:=by
  have:=h.len
  simp only [List.length_append,List.length_cons,List.length_nil] at*
  omega
def bnd (F:List V3):List (Int×Int):=(all F).filter (fun e=>decide ((e.2,e.1) ∉ all F))
theorem mem_bnd {F:List V3} {e:Int×Int}:e∈bnd F↔isB F e:=by unfold bnd isB;rw [List.mem_filter];simp
theorem BMap.empty {F:List V3} {bm:List (Int×Int)} (h:BMap F bm):0<bm.length↔bnd F≠[]:=by
  constructor
  · intro hl
    obtain ⟨q,hq⟩:∃q,q∈bm:=List.exists_mem_of_length_pos hl
    have h1:(mget bm q.1).isSome=true:=mget_isSome.2 (List.mem_map.2 ⟨q,hq,rfl⟩)
    obtain ⟨w,hw⟩:=Option.isSome_iff_exists.1 h1
    have:=mem_bnd.2 (h.some_ _ _ hw)
    intro e;rw [e] at this;cases this
  · intro hne
    obtain ⟨e,he⟩:=List.exists_mem_of_ne_nil _ hne
    obtain ⟨w,hw⟩:=h.ex e.1 e.2 (mem_bnd.1 he)
    have:=mget_mem hw
    exact List.length_pos_of_mem this
def walkF (nx:Int→Option Int):Nat→List Int→Int→List Int
  |0,_,_=>[]
  |f+1,K,a=>if a∈K then [] else a :: walkF nx f (K++[a]) ((nx a).getD 0)
def walk (nx:Int→Option Int) (n:Nat) (K:List Int) (v:Int):List Int:=walkF nx (n+1) K v
def lstep (nx:Int→Option Int) (n:Nat) (s:List Int×List (List Int)) (v:Int):List Int×List (List Int):=if (nx v).isSome=false∨v∈s.1 then s else (s.1++walk nx n s.1 v,s.2++[walk nx n s.1 v])
def loopsF (nx:Int→Option Int) (n:Nat):Nat→List Int×List (List Int)
  |0=>([],[])
  |v+1=>lstep nx n (loopsF nx n v) v
def loops (nx:Int→Option Int) (n:Nat):List (List Int):=(loopsF nx n n).2
theorem loopsF_len (nx:Int→Option Int) (n:Nat):∀v,(loopsF nx n v).2.length≤v
  |0=>by simp [loopsF]
  |v+1=>by
    have:=loopsF_len nx n v
    rw [loopsF,lstep]
    split
    · omega
    · simp only [List.length_append,List.length_cons,List.length_nil];omega
def InR (n:Nat) (K:List Int):Prop:=∀x∈K,0≤x∧x<(n:Int)
theorem inR_len {n:Nat} {K:List Int} (h:InR n K) (hn:K.Nodup):K.length≤n:=by
  have:=len_of_sub (K:=K) (l:=(List.range n).map (fun (i:Nat)=>(i:Int))) hn (fun a ha=>List.mem_map.2 ⟨a.toNat,List.mem_range.2 (by have:=h a ha;omega),by have:=h a ha;omega⟩)
  simpa using this
structure WInv (nx:Int→Option Int) (n:Nat) (K:List Int) (v:Int) (W:List Int) (a:Int):Prop where
  rng:InR n (K++W)
  nodup:(K++W).Nodup
  at_:0≤a∧a<(n:Int)
  eq:W++walkF nx (n+1 - W.length) (K++W) a=walk nx n K v
theorem WInv.start {nx:Int→Option Int} {n:Nat} {K:List Int} {v:Int} (h:InR n K) (hn:K.Nodup) (hv:0≤v∧v<(n:Int)):WInv nx n K v [] v:=⟨by simpa using h,by simpa using hn,hv,by simp [walk]⟩
theorem WInv.len {nx:Int→Option Int} {n:Nat} {K:List Int} {v:Int} {W:List Int} {a:Int} (h:WInv nx n K v W a):(K++W).length≤n:=inR_len h.rng h.nodup
theorem WInv.step {nx:Int→Option Int} {n:Nat} {K:List Int} {v:Int} {W:List Int} {a:Int} (h:WInv nx n K v W a) (ha:a ∉ K++W) (hx:0≤(nx a).getD 0∧(nx a).getD 0<(n:Int)):WInv nx n K v (W++[a]) ((nx a).getD 0):=by
  have hl:=h.len
  rw [List.length_append] at hl
  refine ⟨fun x hx=> ?_,?_,hx,?_⟩
  · rw [← List.append_assoc] at hx
    rcases List.mem_append.1 hx with hx|hx
    · exact h.rng x hx
    · simp at hx;rw [hx];exact h.at_
  · rw [← List.append_assoc]
    exact List.nodup_append.2 ⟨h.nodup,by simp,fun x hx' y hy=>by simp at hy;subst hy;exact fun e=>ha (e ▸ hx')⟩
  · have := h.eq
    rw [show n+1 - W.length=(n+1 - (W++[a]).length)+1 by simp;omega,walkF,if_neg ha] at this
    rw [← this,List.append_assoc,List.append_assoc];rfl
theorem WInv.fin {nx:Int→Option Int} {n:Nat} {K:List Int} {v:Int} {W:List Int} {a:Int} (h:WInv nx n K v W a) (ha:a∈K++W):W=walk nx n K v:=by
  have hl:=h.len
  rw [List.length_append] at hl
  have:=h.eq
  rw [show n+1 - W.length=(n - W.length)+1 by omega,walkF,if_pos ha,List.append_nil] at this
  exact this
structure LInv (nx:Int→Option Int) (n v:Nat) (K:List Int) (out:List (List Int)):Prop where
  eq:loopsF nx n v=(K,out)
  rng:InR n K
  nodup:K.Nodup
theorem LInv.start (nx:Int→Option Int) (n:Nat):LInv nx n 0 [] []:=⟨rfl,fun x h=>(by cases h),by simp⟩
theorem LInv.len {nx:Int→Option Int} {n v:Nat} {K:List Int} {out:List (List Int)} (h:LInv nx n v K out):out.length≤v:=by
  have:=loopsF_len nx n v
  rw [h.eq] at this;exact this
theorem LInv.skip {nx:Int→Option Int} {n v:Nat} {K:List Int} {out:List (List Int)} (h:LInv nx n v K out) (hs:(!(nx v).isSome)=true∨(v:Int)∈K):LInv nx n (v+1) K out:=⟨by
  rw [loopsF,h.eq,lstep,if_pos (by rcases hs with h|h;exact .inl (by simpa using h);exact .inr h)],h.rng,h.nodup⟩
theorem LInv.step {nx:Int→Option Int} {n v:Nat} {K:List Int} {out:List (List Int)} (h:LInv nx n v K out) (hs:¬((!(nx v).isSome)=true∨(v:Int)∈K)) {W:List Int} {a:Int} (hW:WInv nx n K v W a) (ha:a∈K++W):LInv nx n (v+1) (K++W) (out++[W]):=by
  have e:=hW.fin ha
  refine ⟨?_,hW.rng,hW.nodup⟩
  rw [loopsF,h.eq,lstep,if_neg (fun hc=>hs (by rcases hc with h|h;exact .inl (by simp [h]);exact .inr h)),←e]
theorem LInv.fin {nx:Int→Option Int} {n:Nat} {K:List Int} {out:List (List Int)} (h:LInv nx n n K out):out=loops nx n:=by unfold loops;rw [h.eq]
theorem BMap.rng {V F:List V3} (hg:Good V F) {bm:List (Int×Int)} (h:BMap F bm) {a:Int} (h0:0<V.length):0≤(mget bm a).getD 0∧(mget bm a).getD 0<V.length:=by
  cases hm:mget bm a with
  |none=>simp;omega
  |some w=>
    have:=all_rng hg (h.some_ a w hm).1
    simp;omega
def nextS (F:List V3) (m:List (Int×Int)) (e:Int×Int):List (Int×Int):=if count (all F) (e.2,e.1)=0 then mput m e.1 e.2 else m
def nextM (F:List V3):List (Int×Int):=(all F).foldl (nextS F) []
theorem foldN {F:List V3}:∀{A B:List (Int×Int)} {m:List (Int×Int)},(∀e∈A++B,e∈all F)→(∀v w,mget m v=some w→isB F (v,w))→(∀e∈B,isB F e→∃w,mget m e.1=some w)→
    (∀v w,mget (A.foldl (nextS F) m) v=some w→isB F (v,w))∧∀e∈B++A,isB F e→∃w,mget (A.foldl (nextS F) m) e.1=some w
  |[],B,m,_,h1,h2=>⟨h1,by simpa using h2⟩
  |a :: A,B,m,h0,h1,h2=>by
    have hz:count (all F) (a.2,a.1)=0↔(a.2,a.1) ∉ all F:=by
      have:=count_pos (l:=all F) (e:=(a.2,a.1))
      constructor
      · intro e hm;have:=this.2 hm;omega
      · intro hm;have:=mt this.1 hm;omega
    have ha:a∈all F:=h0 a (by simp)
    have key:=foldN (F:=F) (A:=A) (B:=B++[a]) (m:=nextS F m a) (fun e he=>h0 e (by
      simp only [List.mem_append,List.mem_cons,List.not_mem_nil,or_false] at he ⊢
      rcases he with he|he|he
      · exact .inl (.inr he)
      · exact .inr he
      · exact .inl (.inl he))) (fun v w hg=>by
      unfold nextS at hg
      split at hg
      · rename_i hc
        rw [mget_mput] at hg
        split at hg
        · rename_i e;cases hg;subst e;exact ⟨ha,hz.1 hc⟩
        · exact h1 v w hg
      · exact h1 v w hg) (fun e he hb=>by
      unfold nextS
      split
      · rw [mget_mput]
        split
        · exact ⟨_,rfl⟩
        · rename_i hne
          rcases List.mem_append.1 he with he|he
          · exact h2 e he hb
          · simp at he;subst he;exact absurd rfl hne
      · rename_i hc
        rcases List.mem_append.1 he with he|he
        · exact h2 e he hb
        · simp at he;subst he;exact absurd (hz.2 hb.2) hc)
    simpa [List.append_assoc] using key
theorem nextM_bmap (F:List V3):BMap F (nextM F):=by
  have:=foldN (F:=F) (A:=all F) (B:=[]) (m:=[]) (by simp) (fun v w h=>(by cases h)) (fun e h=>(by cases h))
  exact ⟨this.1,fun v w hb=>this.2 (v,w) (by simpa using hb.1) hb⟩
theorem nextM_take {F:List V3} {i:Nat} (h:i<(all F).length):((all F).take (i+1)).foldl (nextS F) []=nextS F (((all F).take i).foldl (nextS F) []) ((all F).getD i (0,0)):=by
  rw [take_snoc (0,0) h,List.foldl_append];rfl
def pl (e:Int×Int):Int×Int:=(min e.1 e.2,max e.1 e.2)
def psF:Nat→List V3→List ((Int×Int)×Int)
  |_,[]=>[]
  |i,f :: l=>(pl (f.1,f.2.1),(i:Int)) :: (pl (f.2.1,f.2.2),(i:Int)) :: (pl (f.2.2,f.1),(i:Int)) :: psF (i+1) l
def ps (F:List V3):List ((Int×Int)×Int):=psF 0 F
theorem psF_snoc:∀(F:List V3) (i:Nat) (f:V3),psF i (F++[f])=psF i F++[(pl (f.1,f.2.1),((i+F.length:Nat):Int)),(pl (f.2.1,f.2.2),((i+F.length:Nat):Int)),(pl (f.2.2,f.1),((i+F.length:Nat):Int))]
  |[],i,f=>by simp [psF]
  |g :: l,i,f=>by
    have:=psF_snoc l (i+1) f
    simp only [List.cons_append,psF,this,List.length_cons]
    rw [show i+1+l.length=i+(l.length+1) by omega]
def sideS (M:List ((Int×Int)×List Int)) (q:(Int×Int)×Int):List ((Int×Int)×List Int):=mput M q.1 ((mget M q.1).getD []++[q.2])
def sides (F:List V3):List ((Int×Int)×List Int):=(ps F).foldl sideS []
theorem sides_take {F:List V3} {i:Nat} (h:i<F.length):sides (F.take (i+1))=sideS (sideS (sideS (sides (F.take i)) (pl ((F.getD i (0,0,0)).1,(F.getD i (0,0,0)).2.1),(i:Int))) (pl ((F.getD i (0,0,0)).2.1,(F.getD i (0,0,0)).2.2),(i:Int))) (pl ((F.getD i (0,0,0)).2.2,(F.getD i (0,0,0)).1),(i:Int)):=by
  unfold sides ps
  rw [take_snoc (0,0,0) h,psF_snoc,List.foldl_append,List.length_take,show 0+min i F.length=i by omega];rfl
theorem sideS_len {M:List ((Int×Int)×List Int)} {N:Nat} (h:∀k,((mget M k).getD []).length≤N) (q:(Int×Int)×Int):∀k,((mget (sideS M q) k).getD []).length≤N+1:=fun k=>by
  unfold sideS
  rw [mget_mput]
  split
  · have:=h q.1;simp;omega
  · have:=h k;omega
theorem foldS_len:∀{A:List ((Int×Int)×Int)} {M:List ((Int×Int)×List Int)} {N:Nat},(∀k,((mget M k).getD []).length≤N)→∀k,((mget (A.foldl sideS M) k).getD []).length≤N+A.length
  |[],M,N,h,k=>by simpa using h k
  |a :: A,M,N,h,k=>by
    have:=foldS_len (A:=A) (sideS_len h a) k
    simp only [List.foldl_cons,List.length_cons];omega
theorem psF_len:∀(F:List V3) (i:Nat),(psF i F).length=3*F.length
  |[],_=>rfl
  |f :: l,i=>by simp only [psF,List.length_cons,psF_len l (i+1)];omega
theorem sides_len (F:List V3):∀k,((mget (sides F) k).getD []).length≤3*F.length:=fun k=>by
  have:=foldS_len (A:=ps F) (M:=[]) (N:=0) (fun k=>by simp [mget]) k
  unfold ps at this
  rw [psF_len] at this
  simpa [sides,ps] using this
def verts (F:List V3):List Int:=F.flatMap (fun f=>[f.1,f.2.1,f.2.2])
def usedM (F:List V3):List (Int×Bool):=(verts F).foldl (fun m v=>mput m v true) []
theorem usedM_take {F:List V3} {i:Nat} (h:i<F.length):usedM (F.take (i+1))=mput (mput (mput (usedM (F.take i)) (F.getD i (0,0,0)).1 true) (F.getD i (0,0,0)).2.1 true) (F.getD i (0,0,0)).2.2 true:=by
  unfold usedM verts
  rw [take_snoc (0,0,0) h,List.flatMap_append,List.foldl_append];rfl
def eulerP (F:List V3):Int:=((usedM F).length:Int) - ((sides F).length:Int)+(F.length:Int)
theorem mput_len {κ ν:Type} [DecidableEq κ] (m:List (κ×ν)) (a:κ) (v:ν):(mput m a v).length≤m.length+1:=by
  have:=congrArg List.length (mput_keys m a v)
  rw [List.length_map] at this
  rw [this];split <;> simp
theorem foldM_len {κ ν σ:Type} [DecidableEq κ] (f:List (κ×ν)→σ→List (κ×ν)) (hf:∀m s,(f m s).length≤m.length+1):∀(A:List σ) (m:List (κ×ν)),(A.foldl f m).length≤m.length+A.length
  |[],m=>by simp
  |a :: A,m=>by
    have:=foldM_len f hf A (f m a)
    have:=hf m a
    simp only [List.foldl_cons,List.length_cons];omega
theorem usedM_len (F:List V3):(usedM F).length≤3*F.length:=by
  have:=foldM_len (fun (m:List (Int×Bool)) v=>mput m v true) (fun m s=>mput_len m s true) (verts F) []
  have h2:(verts F).length=3*F.length:=by
    unfold verts;induction F with
    |nil=>rfl
    |cons f l ih=>simp only [List.flatMap_cons,List.length_append,List.length_cons,List.length_nil];have:=ih (by exact foldM_len (fun (m:List (Int×Bool)) v=>mput m v true) (fun m s=>mput_len m s true) (verts l) []);omega
  unfold usedM
  rw [h2] at this
  simpa using this
theorem sidesN_len (F:List V3):(sides F).length≤3*F.length:=by
  have:=foldM_len sideS (fun m s=>mput_len m s.1 _) (ps F) []
  unfold ps at this
  rw [psF_len] at this
  simpa [sides,ps] using this
def bordersR (V F:List V3) (bm:List (Int×Int)):List (List Int):=if check V F=0 then loops (fun jj=>mget bm jj) V.length else []
def eulerR (V F:List V3):Int:=if check V F=0 then eulerP F else 0
theorem bmap_unique {F:List V3} (hu:∀v w w',isB F (v,w)→isB F (v,w')→w=w') {bm bm':List (Int×Int)} (h:BMap F bm) (h':BMap F bm'):(fun jj=>mget bm jj)=(fun jj=>mget bm' jj):=by
  funext v
  cases hm:mget bm v with
  |none=>
    cases hm':mget bm' v with
    |none=>rfl
    |some w=>
      obtain ⟨w',hw⟩:=h.ex v w (h'.some_ v w hm')
      rw [hm] at hw;cases hw
  |some w=>
    obtain ⟨w',hw⟩:=h'.ex v w (h.some_ v w hm)
    rw [hw,hu v w w' (h.some_ v w hm) (h'.some_ v w' hw)]
def pt (V:List V3) (j:Int):V3:=V.getD j.toNat (0,0,0)
def tet (V:List V3) (f:V3):Int:=det (pt V f.1) (pt V f.2.1) (pt V f.2.2)
def volS (V F:List V3):Int:=F.foldl (fun s f=>s+tet V f) 0
theorem volS_take {V F:List V3} {i:Nat} (h:i<F.length):volS V (F.take (i+1))=volS V (F.take i)+tet V (F.getD i (0,0,0)):=by
  unfold volS;rw [take_snoc (0,0,0) h,List.foldl_append];rfl
def volC (V F:List V3):Int:=if check V F≠0 then check V F else if bnd F≠[] then 11 else 0
def vol (V F:List V3):Int:=if volC V F=0 then volS V F else 0
theorem volC_bad {V F:List V3} (h:check V F≠0):volC V F=check V F∧vol V F=0:=by
  have h1:volC V F=check V F:=by unfold volC;rw [if_pos h]
  exact ⟨h1,by unfold vol;rw [h1,if_neg h]⟩
theorem volC_open {V F:List V3} (h:check V F=0) (h2:bnd F≠[]):volC V F=11∧vol V F=0:=by
  have h1:volC V F=11:=by unfold volC;rw [if_neg (by simpa using h),if_pos h2]
  exact ⟨h1,by unfold vol;rw [h1];rfl⟩
theorem volC_ok {V F:List V3} (h:check V F=0) (h2:¬bnd F≠[]):volC V F=0∧vol V F=volS V F:=by
  have h1:volC V F=0:=by unfold volC;rw [if_neg (by simpa using h),if_neg h2]
  exact ⟨h1,by unfold vol;rw [h1];rfl⟩
theorem check_form {V F:List V3} (h:check V F=0):form V F=0:=by
  by_cases h1:form V F=0
  · exact h1
  · rw [check_bad h1] at h;exact absurd h h1
theorem check_nodup {V F:List V3} (h:check V F=0):(all F).Nodup:=by
  by_cases h1:(all F).Nodup
  · exact h1
  · rw [check_dup (check_form h) h1] at h;cases h
def exV:List V3:=[(0,0,0),(1,0,0),(0,1,0),(0,0,1)]
def exF:List V3:=[(0,2,1),(0,1,3),(0,3,2),(1,2,3)]
def exL:List (List Int):=[[1,3,2]]
theorem ex_volC:volC exV exF=0:=by decide +kernel
theorem ex_vol:vol exV exF=1:=by decide +kernel
theorem ex_check:check exV exF=0:=by decide +kernel
theorem ex_euler:eulerR exV exF=2:=by decide +kernel
theorem ex_open:check exV (exF.take 3)=0:=by decide +kernel
theorem ex_uniq:∀e∈bnd (exF.take 3),∀e'∈bnd (exF.take 3),e.1=e'.1→e.2=e'.2:=by decide +kernel
theorem ex_next:loops (fun jj=>mget (nextM (exF.take 3)) jj) 4=exL:=by decide +kernel
theorem ex_borders {bm:List (Int×Int)} (h:BMap (exF.take 3) bm):bordersR exV (exF.take 3) bm=exL:=by
  unfold bordersR
  rw [if_pos ex_open,bmap_unique (fun v w w' h1 h2=>ex_uniq _ (mem_bnd.2 h1) _ (mem_bnd.2 h2) rfl) h (nextM_bmap _)]
  exact ex_next
end Go.Proofs.Ytalfgjpbbongcaa.Ms
namespace Go.Proofs.Ytalfgjpbbongcaa.Big
theorem zqa {z:Int} (h: -9007199254740992≤z∧z≤9007199254740992):ln z≤3:=ln_64 (by omega) (by omega)
theorem zWa {a b c d:Int} (ha:ln a≤10) (hb:ln b≤10) (hc:ln c≤10) (hd:ln d≤10):ln (a*b - c*d)≤21:=by
  have:=zdb a b
  have:=zdb c d
  have:=ln_sub (a*b) (c*d)
  omega
end Go.Proofs.Ytalfgjpbbongcaa.Big
namespace Go.Proofs.Ytalfgjpbbongcaa.Ms
open Go.Proofs.Ytalfgjpbbongcaa.Sp (mget mput mget_mput mput_keys mput_nodup mget_isSome)
set_option linter.unusedVariables false
def sumI:List Int→Int
  |[]=>0
  |a :: l=>a+sumI l
theorem sumI_append:∀(l m:List Int),sumI (l++m)=sumI l+sumI m
  |[],m=>by simp [sumI]
  |a :: l,m=>by simp only [List.cons_append,sumI,sumI_append l m];omega
theorem loopsF_some {nx:Int→Option Int} {n:Nat}:∀(v:Nat) (w:Nat),w<v→(nx (w:Int)).isSome=true→(loopsF nx n v).1≠[]∨(loopsF nx n v).2≠[]
  |0,w,h,_=>by omega
  |v+1,w,h,hs=>by
    have hk:∀s:List Int×List (List Int),(s.1≠[]∨s.2≠[])→(lstep nx n s v).1≠[]∨(lstep nx n s v).2≠[]:=fun s hs=>by
      unfold lstep;split
      · exact hs
      · exact Or.inr (by simp)
    by_cases hw:w<v
    · exact hk _ (loopsF_some v w hw hs)
    · have e : w = v := by omega
      subst e
      rw [loopsF,lstep]
      split
      · rename_i hc
        rcases hc with hc|hc
        · rw [hs] at hc;cases hc
        · exact Or.inl (fun h0=>by rw [h0] at hc;cases hc)
      · exact Or.inr (by simp)
theorem loopsF_iff {nx:Int→Option Int} {n:Nat}:∀v,(loopsF nx n v).1≠[]→(loopsF nx n v).2≠[]
  |0,h=>by simp [loopsF] at h
  |v+1,h=>by
    rw [loopsF,lstep] at h ⊢
    split
    · rename_i hc;rw [if_pos hc] at h;exact loopsF_iff v h
    · simp
theorem loopsF_none {nx:Int→Option Int} {n:Nat} (hn:∀w,nx w=none):∀v,loopsF nx n v=([],[])
  |0=>rfl
  |v+1=>by rw [loopsF,loopsF_none hn v,lstep,if_pos (Or.inl (by rw [hn];rfl))]
theorem loops_bnd {V F:List V3} (hg:Good V F) {bm:List (Int×Int)} (h:BMap F bm):0<(loops (fun jj=>mget bm jj) V.length).length↔bnd F≠[]:=by
  constructor
  · intro hl hb
    have hn:∀w,mget bm w=none:=fun w=>by
      cases e:mget bm w with
      |none=>rfl
      |some u=>
        have:(w,u)∈bnd F:=mem_bnd.2 (h.some_ w u e)
        rw [hb] at this;cases this
    rw [loops,loopsF_none (fun w=>hn w)] at hl;simp at hl
  · intro hb
    obtain ⟨e,he⟩:=List.exists_mem_of_ne_nil _ hb
    have hB:=mem_bnd.1 he
    obtain ⟨w,hw⟩:=h.ex e.1 e.2 hB
    have hr:=all_rng hg hB.1
    have h1:=loopsF_some (nx:=fun jj=>mget bm jj) (n:=V.length) V.length e.1.toNat (by omega) (by
      show (mget bm ((e.1.toNat:Nat):Int)).isSome=true
      rw [show ((e.1.toNat:Nat):Int)=e.1 by omega,hw];rfl)
    have h2:(loopsF (fun jj=>mget bm jj) V.length V.length).2≠[]:=by
      rcases h1 with h1|h1
      · exact loopsF_iff _ h1
      · exact h1
    exact List.length_pos_iff.2 h2
theorem mul_lim {a b:Int} (ha: -2097152≤a∧a≤2097152) (hb: -2097152≤b∧b≤2097152): -4398046511104≤a*b∧a*b≤4398046511104:=by
  have:=mul_le (A:=2097152) (B:=2097152) ha hb
  omega
end Go.Proofs.Ytalfgjpbbongcaa.Ms
namespace Go.Proofs.Ytalfgjpbbongcaa.Ms
open Go.Proofs.Ytalfgjpbbongcaa.Sp (mget mput mget_mput mput_keys mput_nodup mget_isSome)
set_option linter.unusedVariables false
set_option linter.unusedSectionVars false
def fiF (p:V3):List V3→Nat
  |[]=>0
  |q :: l=>if q=p then 0 else fiF p l+1
theorem fiF_lt {p:V3}:∀{l:List V3},p∈l→fiF p l<l.length∧l.getD (fiF p l) (0,0,0)=p
  |q :: l,h=>by
    unfold fiF
    by_cases e:q=p
    · rw [if_pos e];exact ⟨by simp,by simpa using e⟩
    · rw [if_neg e]
      have:=fiF_lt (l:=l) (by rcases List.mem_cons.1 h with h|h;exact absurd h.symm e;exact h)
      exact ⟨by simp only [List.length_cons];omega,by simpa using this.2⟩
theorem fiF_first {p:V3}:∀{l:List V3} {j:Nat},j<fiF p l→l.getD j (0,0,0)≠p∨l.length≤j
  |[],j,h=>by simp [fiF] at h
  |q :: l,j,h=>by
    unfold fiF at h
    by_cases e:q=p
    · rw [if_pos e] at h;omega
    · rw [if_neg e] at h
      cases j with
      |zero=>exact Or.inl (by simpa using e)
      |succ j=>
        rcases fiF_first (p:=p) (l:=l) (j:=j) (by omega) with h1|h1
        · exact Or.inl (by simpa using h1)
        · exact Or.inr (by simp only [List.length_cons];omega)
theorem fiF_le {p:V3} {l:List V3} {j:Nat} (h:j<l.length) (e:l.getD j (0,0,0)=p):fiF p l≤j:=by
  refine Decidable.byContradiction fun hc=> ?_
  rcases fiF_first (l:=l) (p:=p) (j:=j) (by omega) with h1|h1
  · exact h1 e
  · omega
theorem fiF_eq {p:V3} {l:List V3} {j:Nat} (h:j<l.length) (e:l.getD j (0,0,0)=p) (hn:∀i,i<j→l.getD i (0,0,0)≠p):fiF p l=j:=by
  have h1:=fiF_le h e
  have h2:=(fiF_lt (p:=p) (l:=l) (by rw [← e];exact getD_mem _ h)).2
  by_cases hlt:fiF p l<j
  · exact absurd h2 (hn _ hlt)
  · omega
structure FMap (V:List V3) (i:Nat) (m:List (V3×Int)):Prop where
  some_:∀p v,mget m p=some v→∃j:Nat,v=j∧j<i∧V.getD j (0,0,0)=p∧∀k,k<j→V.getD k (0,0,0)≠p
  ex:∀j,j<i→∃v,mget m (V.getD j (0,0,0))=some v
theorem FMap.nil (V:List V3):FMap V 0 []:=⟨fun p v h=>(by cases h),fun j h=>(by omega)⟩
theorem FMap.put {V:List V3} {i:Nat} {m:List (V3×Int)} (h:FMap V i m) (hs:(mget m (V.getD i (0,0,0))).isSome=false):FMap V (i+1) (mput m (V.getD i (0,0,0)) (i:Int)):=⟨fun p v e=>by
  rw [mget_mput] at e
  split at e
  · rename_i hp
    cases e
    refine ⟨i,rfl,by omega,hp.symm ▸ rfl,fun k hk hkp=> ?_⟩
    obtain ⟨v,hv⟩:=h.ex k hk
    rw [hkp] at hv
    rw [hp,hv] at hs;cases hs
  · obtain ⟨j, h1, h2, h3⟩ := h.some_ p v e
    exact ⟨j,h1,by omega,h3⟩,fun j hj=>by
  rw [mget_mput]
  split
  · exact ⟨_,rfl⟩
  · rename_i hne
    exact h.ex j (by
      refine Decidable.byContradiction fun hc=> ?_
      have:j=i:=by omega
      subst this;exact hne rfl)⟩
def fi (V:List V3) (v:Int):Int:=(fiF (pt V v) V:Nat)
theorem FMap.get {V:List V3} {m:List (V3×Int)} (h:FMap V V.length m) {v:Int} (hv:v.toNat<V.length):(mget m (pt V v)).getD 0=fi V v:=by
  obtain ⟨u,hu⟩:=h.ex v.toNat hv
  obtain ⟨j,h1,h2,h3,h4⟩:=h.some_ _ _ hu
  have e:mget m (pt V v)=some u:=hu
  rw [e,h1]
  have:=fiF_eq (p:=pt V v) h2 h3 h4
  unfold fi;rw [this];rfl
def wf (V:List V3) (f:V3):V3:=(fi V f.1,fi V f.2.1,fi V f.2.2)
def usedB (K:List V3) (j:Nat):Bool:=K.any (fun f=>hasV f (j:Int))
def usedL (n:Nat) (K:List V3):List Bool:=(List.range n).map (usedB K)
@[simp] theorem usedL_len (n : Nat) (K : List V3) : (usedL n K).length = n := by simp [usedL]
def rank (K:List V3) (j:Nat):Nat:=((List.range j).filter (usedB K)).length
structure Names (K:List V3) (n i:Nat) (N:List Int):Prop where
  len:N.length=n
  get:∀j,j<i→usedB K j=true→N.getD j 0=(rank K j:Int)
theorem Names.start (K:List V3) (n:Nat):Names K n 0 (List.replicate n 0):=⟨by simp,fun j h=>by omega⟩
theorem Names.hit {K:List V3} {n i:Nat} {N:List Int} (h:Names K n i N) (hi:i<n):Names K n (i+1) (N.set i (rank K i:Int)):=⟨by simp [h.len],fun j hj hu=>by
  rw [List.getD_eq_getElem?_getD,List.getElem?_set]
  by_cases e:i=j
  · rw [if_pos e,if_pos (by rw [h.len];exact hi),e];rfl
  · rw [if_neg e,←List.getD_eq_getElem?_getD];exact h.get j (by omega) hu⟩
theorem Names.miss {K:List V3} {n i:Nat} {N:List Int} (h:Names K n i N) (hu:usedB K i=false):Names K n (i+1) N:=⟨h.len,fun j hj hj2=>by
  by_cases e:j=i
  · rw [e,hu] at hj2;cases hj2
  · exact h.get j (by omega) hj2⟩
def Numbers (K:List V3) (i:Nat) (m:List (Int×Int)):Prop:=∀j,j<i→usedB K j=true→mget m (j:Int)=some (rank K j:Int)
theorem Numbers.start (K:List V3):Numbers K 0 []:=fun j h=>by omega
theorem Numbers.hit {K:List V3} {i:Nat} {m:List (Int×Int)} (h:Numbers K i m):Numbers K (i+1) (mput m (i:Int) (rank K i:Int)):=fun j hj hu=>by
  rw [mget_mput]
  by_cases e:j=i
  · subst e;rw [if_pos rfl]
  · rw [if_neg (by omega)];exact h j (by omega) hu
theorem Numbers.miss {K:List V3} {i:Nat} {m:List (Int×Int)} (h:Numbers K i m) (hu:usedB K i=false):Numbers K (i+1) m:=fun j hj hj2=>by
  by_cases e:j=i
  · rw [e,hu] at hj2;cases hj2
  · exact h j (by omega) hj2
theorem deg_iff {f:V3}:deg f=false↔f.1≠f.2.1∧f.2.1≠f.2.2∧f.2.2≠f.1:=by
  unfold deg;simp
section
variable {V F : List V3} (hg : Good V F)
include hg
end
def turn (f:V3):V3:=(f.1,f.2.2,f.2.1)
end Go.Proofs.Ytalfgjpbbongcaa.Ms
namespace Go.Proofs.Ytalfgjpbbongcaa.Ms
open Go.Proofs.Ytalfgjpbbongcaa.Sp (mget mput mget_mput mput_keys mput_nodup mget_isSome)
set_option linter.unusedVariables false
set_option linter.unusedSectionVars false
def nx (v:Int) (f:V3):Int:=if f.1=v then f.2.1 else if f.2.1=v then f.2.2 else f.1
def pv (v:Int) (f:V3):Int:=if f.1=v then f.2.2 else if f.2.1=v then f.1 else f.2.1
theorem nx_edge {v:Int} {f:V3} (h:hasV f v=true):(v,nx v f)∈edges3 f∧(pv v f,v)∈edges3 f:=by
  unfold hasV at h
  simp only [decide_eq_true_eq] at h
  unfold nx pv edges3
  by_cases h1:f.1=v
  · simp [h1]
  · by_cases h2 : f.2.1 = v
    · simp [h1,h2]
    · have h3 : f.2.2 = v := by rcases h with h | h | h; exact absurd h h1; exact absurd h h2; exact h
      simp [h1,h2,h3]
theorem has_nx {v w:Int} {f:V3} (h:hasV f v=true) (hw:hasV f w=true) (hn:w≠v):w=nx v f∨w=pv v f:=by
  unfold hasV at h hw
  simp only [decide_eq_true_eq] at h hw
  unfold nx pv
  by_cases h1:f.1=v
  · rw [if_pos h1,if_pos h1];omega
  · by_cases h2 : f.2.1 = v
    · rw [if_neg h1,if_pos h2,if_neg h1,if_pos h2];omega
    · rw [if_neg h1,if_neg h2,if_neg h1,if_neg h2];omega
theorem edge_nx {v w:Int} {f:V3} (hd:deg f=false) (h:(v,w)∈edges3 f):hasV f v=true∧nx v f=w∧hasV f w=true∧pv w f=v:=by
  have h0:=deg_iff.1 hd
  unfold edges3 at h
  simp only [List.mem_cons,List.not_mem_nil,or_false,Prod.mk.injEq] at h
  unfold hasV nx pv
  simp only [decide_eq_true_eq]
  rcases h with ⟨rfl,rfl⟩|⟨rfl,rfl⟩|⟨rfl,rfl⟩
  · refine ⟨by simp, by simp, by simp, ?_⟩
    rw [if_neg h0.1,if_pos rfl]
  · refine ⟨by simp, ?_, by simp, ?_⟩
    · rw [if_neg h0.1,if_pos rfl]
    · rw [if_neg (fun e=>h0.2.2 e.symm),if_neg h0.2.1]
  · refine ⟨by simp, ?_, by simp, ?_⟩
    · rw [if_neg (fun e=>h0.2.2 e.symm),if_neg h0.2.1]
    · rw [if_pos rfl]
theorem edge_face {F:List V3} {e:Int×Int} (h:e∈all F):∃j,j<F.length∧e∈edges3 (F.getD j (0,0,0)):=by
  unfold all at h
  obtain ⟨f,hf,he⟩:=List.mem_flatMap.1 h
  obtain ⟨j,hj,rfl⟩:=mem_getD (0,0,0) hf
  exact ⟨j,hj,he⟩
theorem face_edge {F:List V3} {e:Int×Int} {j:Nat} (hj:j<F.length) (h:e∈edges3 (F.getD j (0,0,0))):e∈all F:=List.mem_flatMap.2 ⟨_,getD_mem _ hj,h⟩
theorem edge_lt {F:List V3} (hn:(all F).Nodup) {e:Int×Int} {j k:Nat} (hk:k<F.length) (hjk:j<k) (h1:e∈edges3 (F.getD j (0,0,0))) (h2:e∈edges3 (F.getD k (0,0,0))):False:=by
  obtain ⟨B,hB⟩:=all_prefix (F:=F) (k+1)
  rw [hB,take_snoc (0,0,0) hk,all_snoc] at hn
  have h3:=(List.nodup_append.1 (List.nodup_append.1 hn).1).2.2
  have h4:e∈all (F.take k):=by
    have e0:(F.take k).getD j (0,0,0)=F.getD j (0,0,0):=by
      rw [List.getD_eq_getElem?_getD,List.getD_eq_getElem?_getD,List.getElem?_take_of_lt hjk]
    exact face_edge (F:=F.take k) (j:=j) (by rw [List.length_take];omega) (by rw [e0];exact h1)
  exact h3 e h4 e h2 rfl
theorem edge_same {F:List V3} (hn:(all F).Nodup) {e:Int×Int} {j k:Nat} (hj:j<F.length) (hk:k<F.length) (h1:e∈edges3 (F.getD j (0,0,0))) (h2:e∈edges3 (F.getD k (0,0,0))):j=k:=by
  by_cases a:j<k
  · exact (edge_lt hn hk a h1 h2).elim
  · by_cases b : k < j
    · exact (edge_lt hn hj b h2 h1).elim
    · omega
inductive Fan (F:List V3) (v:Int) (i:Int):Int→Prop
  |refl:Fan F v i i
  |step {j k:Int}:j∈at_ F v→k∈at_ F v→nx v (F.getD j.toNat (0,0,0))=pv v (F.getD k.toNat (0,0,0))→Fan F v i k→Fan F v i j
section
variable {F : List V3} (hd : ∀ f ∈ F, deg f = false) (hn : (all F).Nodup)
include hd hn
theorem nx_inj {v j k:Int} (hj:j∈at_ F v) (hk:k∈at_ F v) (h:nx v (F.getD j.toNat (0,0,0))=nx v (F.getD k.toNat (0,0,0))):j=k:=by
  have a:=(at_all hd (v:=v)).1
  have h1:=(nx_edge (a j hj).2.2).1
  have h2:=(nx_edge (a k hk).2.2).1
  rw [h] at h1
  have:=edge_same hn (j:=j.toNat) (k:=k.toNat) (by have:=a j hj;omega) (by have:=a k hk;omega) h1 h2
  have b:=(a j hj).1;have c:=(a k hk).1
  omega
theorem zEd {v j k:Int} (hj:j∈at_ F v) (hk:k∈at_ F v) (h:pv v (F.getD j.toNat (0,0,0))=pv v (F.getD k.toNat (0,0,0))):j=k:=by
  have a:=(at_all hd (v:=v)).1
  have h1:=(nx_edge (a j hj).2.2).2
  have h2:=(nx_edge (a k hk).2.2).2
  rw [h] at h1
  have:=edge_same hn (j:=j.toNat) (k:=k.toNat) (by have:=a j hj;omega) (by have:=a k hk;omega) h1 h2
  have b:=(a j hj).1;have c:=(a k hk).1
  omega
theorem fan_of {v i:Int} (hi:i∈at_ F v) (hend:∀k∈at_ F v,pv v (F.getD k.toNat (0,0,0))≠nx v (F.getD i.toNat (0,0,0))) {b:Int} (h:Conn (pairs F v (at_ F v)) i b):Fan F v i b∧b∈at_ F v:=by
  have a:=(at_all hd (v:=v)).1
  induction h with
  |refl=>exact ⟨.refl,hi⟩
  |step _ h1 h2 ih=>
    rename_i b c w _
    obtain ⟨hF,hb⟩:=ih
    have p1:=mem_pairs.1 h1
    have p2:=mem_pairs.1 h2
    have hc:=p2.1
    refine ⟨?_,hc⟩
    rcases has_nx (a b hb).2.2 p1.2.1 p1.2.2 with e1|e1 <;> rcases has_nx (a c hc).2.2 p2.2.1 p2.2.2 with e2|e2
    · rw [← nx_inj hd hn hb hc (e1.symm.trans e2)];exact hF
    · -- b goes on to c
      cases hF with
      |refl=>exact absurd (e2.symm.trans e1) (hend c hc)
      |step k1 k2 k3 k4=>
        have:=zEd hd hn hc k2 (e2.symm.trans (e1.trans k3))
        rw [this];exact k4
    · exact .step hc hb (e2.symm.trans e1) hF
    · rw [← zEd hd hn hb hc (e1.symm.trans e2)];exact hF
theorem border_one {v:Int} (hs:starB F v (at_ F v)=true) (hF:F.length≤1024) {w w':Int} (h:isB F (v,w)) (h':isB F (v,w')):w=w':=by
  have a:=(at_all hd (v:=v)).1
  have hl:∀i∈at_ F v,0≤i∧i≤1099511627776:=fun i hi=>⟨(a i hi).1,by have:=(a i hi).2.1;omega⟩
  have key:∀w,isB F (v,w)→∃j:Nat,(j:Int)∈at_ F v∧nx v (F.getD j (0,0,0))=w∧∀k∈at_ F v,pv v (F.getD k.toNat (0,0,0))≠nx v (F.getD j (0,0,0)):=fun w hw=>by
    obtain ⟨j,hj,he⟩:=edge_face hw.1
    obtain ⟨e1,e2,_⟩:=edge_nx (hd _ (getD_mem _ hj)) he
    refine ⟨j,(at_all hd (v:=v)).2.2 j hj e1,e2,fun k hk hc=> ?_⟩
    have e3:=(nx_edge (a k hk).2.2).2
    rw [hc,e2] at e3
    exact hw.2 (face_edge (j:=k.toNat) (by have:=a k hk;omega) e3)
  obtain ⟨j,j1,j2,j3⟩:=key w h
  obtain ⟨k,k1,k2,k3⟩:=key w' h'
  have hc:=(starB_iff hl).1 hs j j1 k k1
  obtain ⟨hfan,_⟩:=fan_of hd hn (i:=(j:Int)) j1 (by rw [Int.toNat_natCast];exact j3) hc
  cases hfan with
  |refl=>rw [← j2,←k2]
  |step q1 q2 q3 q4=>
    rw [Int.toNat_natCast] at q3
    exact absurd q3.symm (k3 _ q2)
end
theorem border_uniq {V F:List V3} (h:check V F=0):∀v w w',isB F (v,w)→isB F (v,w')→w=w':=fun v w w' h1 h2=>by
  have hf:=check_form h
  have hg:=form_zero.1 hf
  have hn:=check_nodup h
  have hr:=all_rng hg h1.1
  refine border_one hg.dg hn ?_ hg.nf h1 h2
  refine Decidable.byContradiction fun hc=> ?_
  have:=check_star hf hn (v:=v.toNat) (by simp only at hr;omega) (by rw [Int.toNat_of_nonneg hr.1];simpa using hc)
  rw [this] at h;cases h
theorem same_len {α:Type} [DecidableEq α] {K l:List α} (hK:K.Nodup) (hl:l.Nodup) (h:∀a,a∈K↔a∈l):K.length=l.length:=by
  have h1:=len_of_sub hK (fun a ha=>(h a).1 ha)
  have h2:=len_of_sub hl (fun a ha=>(h a).2 ha)
  omega
end Go.Proofs.Ytalfgjpbbongcaa.Ms
namespace Go.Proofs.Ytalfgjpbbongcaa.Ms
open Go.Proofs.Ytalfgjpbbongcaa.Sp (mget mput mget_mput mput_keys mput_nodup mget_isSome)
set_option linter.unusedVariables false
set_option linter.unusedSectionVars false
def nseen (E:Nat→Nat→Bool) (i:Nat):Option Nat:=(List.range i).find? (fun k=>E k i)
def cntF (E:Nat→Nat→Bool):Nat→Nat
  |0=>0
  |i+1=>cntF E i+(if (nseen E i).isSome then 0 else 1)
def numsL (E:Nat→Nat→Bool):Nat→List Int
  |0=>[]
  |i+1=>numsL E i++[match nseen E i with|some k=>(numsL E i).getD k 0|none=>(cntF E i:Int)]
theorem numsL_len (E:Nat→Nat→Bool):∀i,(numsL E i).length=i
  |0=>rfl
  |i+1=>by rw [numsL,List.length_append,numsL_len E i];rfl
theorem cntF_le (E:Nat→Nat→Bool):∀i,cntF E i≤i
  |0=>Nat.le_refl _
  |i+1=>by rw [cntF];have:=cntF_le E i;split <;> omega
def Er (r:Nat→Int) (a b:Nat):Bool:=decide (r a=r b)
structure NumI (r:Nat→Int) (i:Nat) (m:List (Int×Int)):Prop where
  len:m.length=cntF (Er r) i
  get:∀p,mget m p=((List.range i).find? (fun k=>decide (r k=p))).map (fun k=>(numsL (Er r) i).getD k 0)
theorem NumI.start (r:Nat→Int):NumI r 0 []:=⟨rfl,fun p=>rfl⟩
theorem NumI.some_ {r:Nat→Int} {i:Nat} {m:List (Int×Int)} (h:NumI r i m):mget m (r i)=(nseen (Er r) i).map (fun k=>(numsL (Er r) i).getD k 0):=h.get (r i)
theorem find_snoc {p:Nat→Bool} {i:Nat}:(List.range (i+1)).find? p=((List.range i).find? p).or (if p i then some i else none):=by
  rw [List.range_succ,List.find?_append]
  congr 1
  cases h:p i <;> simp [h]
theorem getD_keep {l:List Int} {x:Int} {k:Nat} (h:k<l.length):(l++[x]).getD k 0=l.getD k 0:=by
  rw [List.getD_eq_getElem?_getD,List.getElem?_append_left h,←List.getD_eq_getElem?_getD]
theorem NumI.put {r:Nat→Int} {i:Nat} {m:List (Int×Int)} (h:NumI r i m) (hs:(mget m (r i)).isSome=false):NumI r (i+1) (mput m (r i) (m.length:Int))∧numsL (Er r) (i+1)=numsL (Er r) i++[(m.length:Int)]:=by
  have hg:=h.some_
  cases hn:nseen (Er r) i with
  |some k=>rw [hn] at hg;rw [hg] at hs;cases hs
  |none=>
    have e1:numsL (Er r) (i+1)=numsL (Er r) i++[(m.length:Int)]:=by rw [numsL,hn,h.len]
    have hnk:r i ∉ m.map (·.1):=fun hm=>by
      rw [mget_isSome.2 hm] at hs;cases hs
    refine ⟨⟨?_,fun p=> ?_⟩,e1⟩
    · have hk := congrArg List.length (mput_keys m (r i) (m.length : Int))
      rw [List.length_map,if_neg hnk,List.length_append,List.length_map] at hk
      rw [hk,cntF,hn,h.len];rfl
    · rw [mget_mput, find_snoc]
      by_cases e:r i=p
      · have hf:(List.range i).find? (fun k=>decide (r k=p))=none:=by
          rw [← hn];unfold nseen;congr 1;funext k;unfold Er;rw [e]
        rw [if_pos e,hf]
        simp only [Option.none_or,e,decide_true,if_true,Option.map_some]
        rw [e1,List.getD_eq_getElem?_getD,List.getElem?_append_right (by rw [numsL_len];exact Nat.le_refl _),numsL_len,Nat.sub_self];rfl
      · rw [if_neg e, h.get p]
        simp only [e,decide_false,Bool.false_eq_true,if_false,Option.or_none]
        cases hf:(List.range i).find? (fun k=>decide (r k=p)) with
        |none=>rfl
        |some q=>
          have hq:q<i:=List.mem_range.1 (List.mem_of_find?_eq_some hf)
          show some ((numsL (Er r) i).getD q 0)=some ((numsL (Er r) (i+1)).getD q 0)
          rw [e1,getD_keep (l:=numsL (Er r) i) (k:=q) (by rw [numsL_len (Er r) i];exact hq)]
inductive EqC (L:List (Int×Int)):Int→Int→Prop
  |refl (a:Int):EqC L a a
  |step {a b c:Int}:EqC L a b→(b,c)∈L∨(c,b)∈L→EqC L a c
theorem EqC.trans {L:List (Int×Int)} {a b c:Int} (h:EqC L a b) (k:EqC L b c):EqC L a c:=by
  induction k with
  |refl=>exact h
  |step _ h1 ih=>exact .step ih h1
theorem EqC.symm {L:List (Int×Int)} {a b:Int} (h:EqC L a b):EqC L b a:=by
  induction h with
  |refl=>exact .refl _
  |step _ h1 ih=>exact (EqC.step (.refl _) h1.symm).trans ih
theorem EqC.mono {L L':List (Int×Int)} (hL:∀x∈L,x∈L') {a b:Int} (h:EqC L a b):EqC L' a b:=by
  induction h with
  |refl=>exact .refl _
  |step _ h1 ih=>exact .step ih (h1.imp (hL _) (hL _))
structure UC (L u:List (Int×Int)):Prop where
  ok:UOk u
  conn:∀a b,0≤a→0≤b→(find u a=find u b↔EqC L a b)
  pos:∀q∈L,0≤q.1∧0≤q.2
theorem UC.nil:UC [] []:=by
  refine ⟨fun k p h=>(by cases h),fun a b h0 h1=> ?_,fun q h=>(by cases h)⟩
  rw [find_none rfl,find_none rfl]
  constructor
  · rintro rfl;exact .refl _
  · intro h; cases h with
    |refl=>rfl
    |step _ h1=>rcases h1 with h1|h1 <;> cases h1
theorem UC.step {L u:List (Int×Int)} (h:UC L u) {i k:Int} (hi:0≤i) (hk:0≤k):UC (L++[(i,k)]) (joinU u i k):=by
  have hL:∀x∈L,x∈L++[(i,k)]:=fun x hx=>List.mem_append_left _ hx
  have hik:EqC (L++[(i,k)]) i k:= .step (.refl _) (.inl (by simp))
  have hC:∀x y,0≤x→0≤y→find u x=find u y→EqC (L++[(i,k)]) x y:=fun x y hx hy e=>((h.conn x y hx hy).1 e).mono hL
  have hpos:∀q∈L++[(i,k)],0≤q.1∧0≤q.2:=fun q hq=>by
    rcases List.mem_append.1 hq with hq|hq
    · exact h.pos q hq
    · simp at hq;subst hq;exact ⟨hi,hk⟩
  refine ⟨joinU_ok h.ok hi hk,fun a b h0 h1=> ?_,hpos⟩
  rw [find_join h.ok hi hk a h0,find_join h.ok hi hk b h1]
  constructor
  · intro e
    have hin:∀x,0≤x→find u x=max (find u i) (find u k)→EqC (L++[(i,k)]) x i:=fun x hx e=>by
      rcases Int.le_total (find u i) (find u k) with hle|hle
      · exact (hC x k hx hk (by omega)).trans hik.symm
      · exact hC x i hx hi (by omega)
    have hin2:∀x,0≤x→find u x=min (find u i) (find u k)→EqC (L++[(i,k)]) x i:=fun x hx e=>by
      rcases Int.le_total (find u i) (find u k) with hle|hle
      · exact hC x i hx hi (by omega)
      · exact (hC x k hx hk (by omega)).trans hik.symm
    split at e
    · rename_i e1
      split at e
      · rename_i e2;exact (hin a h0 e1).trans (hin b h1 e2).symm
      · exact (hin a h0 e1).trans (hin2 b h1 e.symm).symm
    · split at e
      · rename_i e2;exact (hin2 a h0 e).trans (hin b h1 e2).symm
      · exact hC a b h0 h1 e
  · intro c
    have hstep:∀x y,(x,y)∈L++[(i,k)]→(find u x=find u y∨((find u x=find u i∨find u x=find u k)∧(find u y=find u i∨find u y=find u k))):=fun x y hm=>by
      rcases List.mem_append.1 hm with hm|hm
      · left;exact (h.conn x y (h.pos _ hm).1 (h.pos _ hm).2).2 (.step (.refl _) (.inl hm))
      · simp at hm;obtain ⟨rfl,rfl⟩:=hm;exact .inr ⟨.inl rfl,.inr rfl⟩
    clear h1
    induction c with
    |refl=>rfl
    |step _ h3 ih=>
      rw [ih]
      rename_i b' c' _
      have:(find u b'=find u c'∨((find u b'=find u i∨find u b'=find u k)∧(find u c'=find u i∨find u c'=find u k))):=by
        rcases h3 with h3|h3
        · exact hstep _ _ h3
        · rcases hstep _ _ h3 with e | e
          · exact .inl e.symm
          · exact .inr ⟨e.2,e.1⟩
      split <;> split <;> omega
def rstep (F:List V3) (a:Nat) (l:List Int) (b:Nat):List Int:=if nearF F a b then l.set a (min (l.getD a 0) (l.getD b 0)) else l
def rrow (F:List V3) (n:Nat) (l:List Int) (a:Nat):List Int:=(List.range n).foldl (rstep F a) l
def rsweep (F:List V3) (n:Nat) (l:List Int):List Int:=(List.range n).foldl (rrow F n) l
def labs (F:List V3) (n:Nat):Nat→List Int
  |0=>(List.range n).map (fun i:Nat=>(i:Int))
  |k+1=>rsweep F n (labs F n k)
structure Ple (l' l:List Int):Prop where
  len:l'.length=l.length
  le:∀j,l'.getD j 0≤l.getD j 0
theorem Ple.refl (l:List Int):Ple l l:=⟨rfl,fun j=>Int.le_refl _⟩
theorem Ple.trans {a b c:List Int} (h:Ple a b) (k:Ple b c):Ple a c:=⟨h.len.trans k.len,fun j=>Int.le_trans (h.le j) (k.le j)⟩
theorem getD_set {l:List Int} {a j:Nat} {x:Int}:(l.set a x).getD j 0=if a=j∧j<l.length then x else l.getD j 0:=by
  rw [List.getD_eq_getElem?_getD,List.getElem?_set,List.getD_eq_getElem?_getD]
  by_cases h:a=j
  · subst h
    by_cases h2:a<l.length
    · simp [h2]
    · simp [h2]
  · simp [h]
inductive Cls (F:List V3) (n:Nat):Nat→Nat→Prop
  |refl (a:Nat):Cls F n a a
  |step {a b c:Nat}:Cls F n a b→b<n→c<n→nearF F c b=true→Cls F n a c
theorem share_iff {f g:V3} (hf:deg f=false):2≤common f g↔∃p q,p≠q∧hasV f p=true∧hasV f q=true∧hasV g p=true∧hasV g q=true:=by
  have h0:=deg_iff.1 hf
  obtain ⟨x,y,z⟩:=f
  simp only at h0
  have hfv:∀w,hasV (x,y,z) w=true↔x=w∨y=w∨z=w:=fun w=>by simp [hasV]
  unfold common
  simp only
  constructor
  · intro h
    by_cases h1:hasV g x=true <;> by_cases h2:hasV g y=true <;> by_cases h3:hasV g z=true <;> simp only [h1,h2,h3,if_true,if_false,Bool.false_eq_true] at h <;>
      first
      |(exfalso;revert h;decide)
      |exact ⟨x,y,h0.1,(hfv x).2 (.inl rfl),(hfv y).2 (.inr (.inl rfl)),h1,h2⟩
      |exact ⟨y,z,h0.2.1,(hfv y).2 (.inr (.inl rfl)),(hfv z).2 (.inr (.inr rfl)),h2,h3⟩
      |exact ⟨z,x,h0.2.2,(hfv z).2 (.inr (.inr rfl)),(hfv x).2 (.inl rfl),h3,h1⟩
  · rintro ⟨p, q, hpq, a, b, c, d⟩
    rcases (hfv p).1 a with rfl|rfl|rfl <;> rcases (hfv q).1 b with rfl|rfl|rfl <;> first|exact absurd rfl hpq|(simp only [c,d,if_true];split <;> omega)
theorem near_symm {F:List V3} (hd:∀f∈F,deg f=false) {a b:Nat} (ha:a<F.length) (hb:b<F.length) (h:nearF F a b=true):nearF F b a=true:=by
  unfold nearF at*
  simp only [decide_eq_true_eq,Int.toNat_natCast] at*
  obtain ⟨p,q,h1,h2,h3,h4,h5⟩:=(share_iff (hd _ (getD_mem _ ha))).1 h
  exact (share_iff (hd _ (getD_mem _ hb))).2 ⟨p,q,h1,h4,h5,h2,h3⟩
theorem Cls.trans {F:List V3} {n a b c:Nat} (h:Cls F n a b) (k:Cls F n b c):Cls F n a c:=by
  induction k with
  |refl=>exact h
  |step _ h1 h2 h3 ih=>exact .step ih h1 h2 h3
theorem Cls.symm {F:List V3} (hd:∀f∈F,deg f=false) {n a b:Nat} (hn:n≤F.length) (h:Cls F n a b):Cls F n b a:=by
  induction h with
  |refl=>exact .refl _
  |step _ h1 h2 h3 ih=>exact (Cls.step (.refl _) h2 h1 (near_symm hd (by omega) (by omega) h3)).trans ih
def LC (F:List V3) (n:Nat) (l:List Int):Prop:=l.length=n∧∀a,a<n→0≤l.getD a 0∧l.getD a 0<n∧Cls F n (l.getD a 0).toNat a
theorem LC.step {F:List V3} {n a b:Nat} {l:List Int} (h:LC F n l) (ha:a<n) (hb:b<n):LC F n (rstep F a l b):=by
  unfold rstep
  split
  · rename_i hne
    refine ⟨by simpa using h.1,fun c hc=> ?_⟩
    rw [getD_set]
    split
    · rename_i e
      obtain ⟨rfl,_⟩:=e
      have h1:=h.2 a ha
      have h2:=h.2 b hb
      rcases Int.le_total (l.getD a 0) (l.getD b 0) with hle|hle
      · rw [Int.min_eq_left hle];exact h1
      · rw [Int.min_eq_right hle];exact ⟨h2.1,h2.2.1,.step h2.2.2 hb ha hne⟩
    · exact h.2 c hc
  · exact h
def rl (F:List V3) (a:Nat):Int:=(labs F F.length F.length).getD a 0
theorem numsL_rng (E:Nat→Nat→Bool):∀(i k:Nat),0≤(numsL E i).getD k 0∧(numsL E i).getD k 0≤(i:Int)
  |0,k=>by simp [numsL]
  |i+1,k=>by
    have ih:=numsL_rng E i
    have hc:=cntF_le E i
    by_cases hk:k<i
    · rw [numsL, getD_keep (l := numsL E i) (k := k) (by rw [numsL_len]; exact hk)]
      have:=ih k;omega
    · by_cases e : k = i
      · subst e
        rw [numsL,List.getD_eq_getElem?_getD,List.getElem?_append_right (by rw [numsL_len];exact Nat.le_refl _),numsL_len,Nat.sub_self]
        show 0≤(match nseen E k with|some j=>(numsL E k).getD j 0|none=>(cntF E k:Int))∧(match nseen E k with|some j=>(numsL E k).getD j 0|none=>(cntF E k:Int))≤((k+1:Nat):Int)
        split
        · rename_i j _;have:=ih j;omega
        · omega
      · rw [List.getD_eq_getElem?_getD,List.getElem?_eq_none (by rw [numsL_len];omega)];simp;omega
theorem NumI.rng {r:Nat→Int} {i:Nat} {m:List (Int×Int)} (h:NumI r i m) (p:Int):0≤(mget m p).getD 0∧(mget m p).getD 0≤(i:Int):=by
  rw [h.get p]
  cases (List.range i).find? (fun k=>decide (r k=p)) with
  |none=>simp
  |some k=>exact numsL_rng _ i k
end Go.Proofs.Ytalfgjpbbongcaa.Ms
namespace Go.Proofs.Ytalfgjpbbongcaa.Ms
open Go.Proofs.Ytalfgjpbbongcaa.Sp (T9)
set_option linter.unusedVariables false
def nor (a b c:V3):V3:=((cross a b).1+((cross b c).1+(cross c a).1),(cross a b).2.1+((cross b c).2.1+(cross c a).2.1),(cross a b).2.2+((cross b c).2.2+(cross c a).2.2))
abbrev btwP (a b p:V3):Prop:=dot p p=0∧dot a b≤0
def holds (a b c:V3):Bool:=
  if det a b c≠0 then false
  else if dot (nor a b c) (nor a b c)≠0 then decide (0≤dot (cross a b) (nor a b c)∧0≤dot (cross b c) (nor a b c)∧0≤dot (cross c a) (nor a b c))
  else decide (btwP a b (cross a b)∨btwP b c (cross b c)∨btwP c a (cross c a))
def bad (d:V3) (x:T9):Bool:=decide (det d x.1 x.2.1=0∨det d x.2.1 x.2.2=0∨det d x.2.2 x.1=0)
def side (x:T9):Int:=(det x.1 x.2.1 x.2.2).sign
def hit (d:V3) (x:T9):Int:=if (det d x.1 x.2.1).sign=side x∧(det d x.2.1 x.2.2).sign=side x∧(det d x.2.2 x.1).sign=side x then side x else 0
def cnt (d:V3) (l:List T9):Int:=sumI (l.map (hit d))
abbrev D9:T9:=((0,0,0),(0,0,0),(0,0,0))
theorem any_snoc {f:T9→Bool} {l:List T9} {i:Nat} (h:i<l.length):(l.take (i+1)).any f=((l.take i).any f||f (l.getD i D9)):=by
  rw [take_snoc D9 h,List.any_append];simp
theorem cnt_take {d:V3} {l:List T9} {i:Nat} (h:i<l.length):cnt d (l.take (i+1))=cnt d (l.take i)+hit d (l.getD i D9):=by
  unfold cnt;rw [take_snoc D9 h,List.map_append,sumI_append];simp [sumI]
theorem sgn_rng (z:Int): -1≤z.sign∧z.sign≤1:=by
  rcases Int.lt_trichotomy z 0 with h|h|h
  · rw [Int.sign_eq_neg_one_of_neg h];decide
  · rw [h];decide
  · rw [Int.sign_eq_one_of_pos h];decide
structure CrI (d:V3) (l:List T9) (i:Nat) (z:Int):Prop where
  le:i≤l.length
  no:(l.take i).any (bad d)=false
  eq:z=cnt d (l.take i)
  lo: -(i:Int)≤z
  hi:z≤(i:Int)
theorem CrI.start (d:V3) (l:List T9):CrI d l 0 0:=⟨Nat.zero_le _,rfl,rfl,by decide,by decide⟩
theorem CrI.yes {d:V3} {l:List T9} {i:Nat} {z:Int} (h:CrI d l i z) (hi:i<l.length) (hb:bad d (l.getD i D9)=false) (hh:hit d (l.getD i D9)=side (l.getD i D9)):CrI d l (i+1) (z+side (l.getD i D9)):=by
  have hs:=sgn_rng (det (l.getD i D9).1 (l.getD i D9).2.1 (l.getD i D9).2.2)
  have h1:=h.lo;have h2:=h.hi
  unfold side at*
  exact ⟨hi,by rw [any_snoc hi,h.no,hb];rfl,by rw [cnt_take hi,hh,h.eq],by omega,by omega⟩
theorem CrI.not {d:V3} {l:List T9} {i:Nat} {z:Int} (h:CrI d l i z) (hi:i<l.length) (hb:bad d (l.getD i D9)=false) (hh:hit d (l.getD i D9)=0):CrI d l (i+1) z:=
  ⟨hi,by rw [any_snoc hi,h.no,hb];rfl,by rw [cnt_take hi,hh,←h.eq];omega,by have:=h.lo;omega,by have:=h.hi;omega⟩
theorem CrI.fin {d:V3} {l:List T9} {i:Nat} {z:Int} (h:CrI d l i z) (hi:l.length≤i):l.any (bad d)=false∧z=cnt d l:=by
  have h1:=h.no;have h2:=h.eq
  rw [List.take_of_length_le hi] at h1 h2;exact ⟨h1,h2⟩
theorem check_stars {V F:List V3} (h:check V F=0) {v:Nat} (hv:v<V.length):starB F (v:Int) (at_ F (v:Int))=true:=by
  cases e:starB F (v:Int) (at_ F (v:Int)) with
  |true=>rfl
  |false=>rw [check_star (check_form h) (check_nodup h) hv e] at h;cases h
end Go.Proofs.Ytalfgjpbbongcaa.Ms
namespace Go.Proofs.Ytalfgjpbbongcaa.Sp
open Go
set_option linter.unusedVariables false
set_option maxRecDepth 100000
set_option maxHeartbeats 8000000
theorem zSb {ex:Int} {ey:Int} {ez:Int}:Con Try.prog 47 [.agg #[.int .i64 ex,.int .i64 ey,.int .i64 ez]] [] [] (Y:=Unit) (fun y=>True) (fun y=> .agg #[.int .i64 ex,.int .i64 ey,.int .i64 ey,.int .i64 ez,.int .i64 ez,.int .i64 ex]) (fun y=>[]) (fun y=>[]):=by
 refine zy Try.func47 rfl rfl rfl (fun c=> ?_)
 show RunC _ _ _ _ _ [(0,.agg #[.int .i64 ex,.int .i64 ey,.int .i64 ez])] [] []
 refine ze<|za<|zV rfl rfl (zla rfl rfl) (fun b1=> ?_)
 refine zV rfl rfl (zr zr74 rfl) (fun b2=> ?_)
 refine zg<|zc<|ze<|za<|r_pv rfl rfl (zm (i:=0) Try.underlying44 sz3 rfl rfl (by decide) rfl)<|r_u rfl rfl (zf 1 ty3 rfl rfl rfl)<|r_pv rfl rfl (zm (i:=1) Try.underlying44 sz3 rfl rfl (by decide) rfl)<|r_u rfl rfl (zf 1 ty3 rfl rfl rfl)<|r_pv rfl rfl (zT zr73 rfl Try.underlying73 sz3 (.c rfl (.c rfl .n)) (.c rfl rfl rfl (.take .nil) (.c rfl rfl rfl (.skip (.take .nil)) .n)))<|r_pv rfl rfl (zm (i:=1) Try.underlying44 sz3 rfl rfl (by decide) rfl)<|r_u rfl rfl (zf 1 ty3 rfl rfl rfl)<|r_pv rfl rfl (zm (i:=2) Try.underlying44 sz3 rfl rfl (by decide) rfl)<|r_u rfl rfl (zf 1 ty3 rfl rfl rfl)<|r_pv rfl rfl (zT zr73 rfl Try.underlying73 sz3 (.c rfl (.c rfl .n)) (.c rfl rfl rfl (.take .nil) (.c rfl rfl rfl (.skip (.take .nil)) .n)))<|r_pv rfl rfl (zm (i:=2) Try.underlying44 sz3 rfl rfl (by decide) rfl)<|r_u rfl rfl (zf 1 ty3 rfl rfl rfl)<|r_pv rfl rfl (zm (i:=0) Try.underlying44 sz3 rfl rfl (by decide) rfl)<|r_u rfl rfl (zf 1 ty3 rfl rfl rfl)<|r_pv rfl rfl (zT zr73 rfl Try.underlying73 sz3 (.c rfl (.c rfl .n)) (.c rfl rfl rfl (.take .nil) (.c rfl rfl rfl (.skip (.take .nil)) .n)))<|r_pv rfl rfl (zT zr74 rfl Try.underlying74 sz73 (.c rfl (.c rfl (.c rfl .n))) (.c rfl rfl rfl (.take (.take .nil)) (.c rfl rfl rfl (.skip (.skip (.take (.take .nil)))) (.c rfl rfl rfl (.skip (.skip (.skip (.skip (.take (.take .nil)))))) .n))))<|zv 0 rfl rfl rfl rfl rfl sz74 rfl (.take (.take (.take (.take (.take (.take .nil)))))) .z<|zg<|zc<|zK ?_
 exact zB Try.results47 () trivial (zR 0 ty74 rfl rfl (.take (.take (.take (.take (.take (.take .nil))))))) rfl (ho:=(.n:PickO _ _ _)) (.n:SelR _ _ _)
theorem zdd {ex:Int} {ey:Int} {ez:Int}:Con Try.prog 78 [.agg #[.int .i64 ex,.int .i64 ey,.int .i64 ez]] [] [] (Y:=Unit) (fun y=>True) (fun y=> .agg #[.int .i64 ex,.int .i64 ey,.int .i64 ey,.int .i64 ez,.int .i64 ez,.int .i64 ex]) (fun y=>[]) (fun y=>[]):=by
 refine zy Try.func78 rfl rfl rfl (fun c=> ?_)
 show RunC _ _ _ _ _ [(0,.agg #[.int .i64 ex,.int .i64 ey,.int .i64 ez])] [] []
 refine ze<|za<|zV rfl rfl (zla rfl rfl) (fun b1=> ?_)
 refine zV rfl rfl (zr zr112 rfl) (fun b2=> ?_)
 refine zg<|zc<|ze<|za<|r_pv rfl rfl (zm (i:=0) Try.underlying44 sz3 rfl rfl (by decide) rfl)<|r_u rfl rfl (zf 1 ty3 rfl rfl rfl)<|r_pv rfl rfl (zm (i:=1) Try.underlying44 sz3 rfl rfl (by decide) rfl)<|r_u rfl rfl (zf 1 ty3 rfl rfl rfl)<|r_pv rfl rfl (zT zr72 rfl Try.underlying72 sz3 (.c rfl (.c rfl .n)) (.c rfl rfl rfl (.take .nil) (.c rfl rfl rfl (.skip (.take .nil)) .n)))<|r_pv rfl rfl (zm (i:=1) Try.underlying44 sz3 rfl rfl (by decide) rfl)<|r_u rfl rfl (zf 1 ty3 rfl rfl rfl)<|r_pv rfl rfl (zm (i:=2) Try.underlying44 sz3 rfl rfl (by decide) rfl)<|r_u rfl rfl (zf 1 ty3 rfl rfl rfl)<|r_pv rfl rfl (zT zr72 rfl Try.underlying72 sz3 (.c rfl (.c rfl .n)) (.c rfl rfl rfl (.take .nil) (.c rfl rfl rfl (.skip (.take .nil)) .n)))<|r_pv rfl rfl (zm (i:=2) Try.underlying44 sz3 rfl rfl (by decide) rfl)<|r_u rfl rfl (zf 1 ty3 rfl rfl rfl)<|r_pv rfl rfl (zm (i:=0) Try.underlying44 sz3 rfl rfl (by decide) rfl)<|r_u rfl rfl (zf 1 ty3 rfl rfl rfl)<|r_pv rfl rfl (zT zr72 rfl Try.underlying72 sz3 (.c rfl (.c rfl .n)) (.c rfl rfl rfl (.take .nil) (.c rfl rfl rfl (.skip (.take .nil)) .n)))<|r_pv rfl rfl (zT zr112 rfl Try.underlying112 sz72 (.c rfl (.c rfl (.c rfl .n))) (.c rfl rfl rfl (.take (.take .nil)) (.c rfl rfl rfl (.skip (.skip (.take (.take .nil)))) (.c rfl rfl rfl (.skip (.skip (.skip (.skip (.take (.take .nil)))))) .n))))<|zv 0 rfl rfl rfl rfl rfl sz112 rfl (.take (.take (.take (.take (.take (.take .nil)))))) .z<|zg<|zc<|zK ?_
 exact zB Try.results78 () trivial (zR 0 ty112 rfl rfl (.take (.take (.take (.take (.take (.take .nil))))))) rfl (ho:=(.n:PickO _ _ _)) (.n:SelR _ _ _)
theorem zIa {ex:Int} {ey:Int}:Con Try.prog 75 [.agg #[.int .i64 ex,.int .i64 ey]] [] [] (Y:=Unit) (fun y=>True) (fun y=> .agg #[.int .i64 (min ex ey),.int .i64 (max ex ey)]) (fun y=>[]) (fun y=>[]):=by
 refine zy Try.func75 rfl rfl rfl (fun c=> ?_)
 show RunC _ _ _ _ _ [(0,.agg #[.int .i64 ex,.int .i64 ey])] [] []
 refine ze<|za<|zV rfl rfl (zla rfl rfl) (fun b1=> ?_)
 refine zV rfl rfl (zr zr73 rfl) (fun b2=> ?_)
 refine zg<|zc<|ze<|za<|r_pv rfl rfl (zm (i:=0) Try.underlying73 sz3 rfl rfl (by decide) rfl)<|r_u rfl rfl (zf 1 ty3 rfl rfl rfl)<|r_pv rfl rfl (zm (i:=1) Try.underlying73 sz3 rfl rfl (by decide) rfl)<|r_u rfl rfl (zf 1 ty3 rfl rfl rfl)<|r_pv rfl rfl (zne rfl rfl)<|r_pv rfl rfl (zm (i:=0) Try.underlying73 sz3 rfl rfl (by decide) rfl)<|r_u rfl rfl (zf 1 ty3 rfl rfl rfl)<|r_pv rfl rfl (zm (i:=1) Try.underlying73 sz3 rfl rfl (by decide) rfl)<|r_u rfl rfl (zf 1 ty3 rfl rfl rfl)<|r_pv rfl rfl (zrd rfl rfl)<|r_pv rfl rfl (zT zr73 rfl Try.underlying73 sz3 (.c rfl (.c rfl .n)) (.c rfl rfl rfl (.take .nil) (.c rfl rfl rfl (.skip (.take .nil)) .n)))<|zv 0 rfl rfl rfl rfl rfl sz73 rfl (.take (.take .nil)) .z<|zg<|zc<|zK ?_
 exact zB Try.results75 () trivial (zR 0 ty73 rfl rfl (.take (.take .nil))) rfl (ho:=(.n:PickO _ _ _)) (.n:SelR _ _ _)
theorem zkc {a:Int} {b:Int} (hb:0<b) (ha: -4611686018427387904≤a∧a≤4611686018427387904):Con Try.prog 69 [.int .i64 a,.int .i64 b] [] [] (Y:=Unit) (fun y=>True) (fun y=> .int .i64 (a / b)) (fun y=>[]) (fun y=>[]):=by
 refine zy Try.func69 rfl rfl rfl (fun c=> ?_)
 show RunC _ _ _ _ _ [(0,.int .i64 a),(1,.int .i64 b)] [] []
 have hq:=Ms.tdiv_le hb ha.1 ha.2
 refine ze<|za<|r_pv rfl rfl (zd rfl)<|zg<|zc<|ze<|za<|r_pv rfl rfl (zb rfl)<|r_pv rfl rfl (zb rfl)<|r_pv rfl rfl (zrc (z:=(a).tdiv b) rfl rfl (by omega) (w64 (by omega)))<|r_pv rfl rfl (zd rfl)<|zg<|zc<|ze<|ze<|za<|r_pv rfl rfl (zb rfl)<|r_pv rfl rfl (zb rfl)<|r_pv rfl rfl (zgb (z:=(a).tmod b) rfl rfl (by omega) rfl)<|r_pv rfl rfl (zE rfl rfl)<|zg<|zc<|zD rfl (fun hneg=> ?_) (fun hneg=> ?_)
 ·
  refine za<|r_pv rfl rfl (zb rfl)<|r_pv rfl rfl (zUa (z:=((a).tdiv b - 1)) rfl rfl (w64 (by omega)))<|r_pv rfl rfl (zd rfl)<|zg<|zc<|ze<|za<|r_pv rfl rfl (zb rfl)<|r_pv rfl rfl (zd rfl)<|zg<|zc<|zK ?_
  exact zB Try.results69 () trivial (zx rfl) (by rw [Ms.mean_lt hb hneg]) (ho:=(.n:PickO _ _ _)) (.n:SelR _ _ _)
 ·
  refine zu<|zc<|ze<|za<|r_pv rfl rfl (zb rfl)<|r_pv rfl rfl (zd rfl)<|zg<|zc<|zK ?_
  exact zB Try.results69 () trivial (zx rfl) (by rw [Ms.mean_ge hb hneg]) (ho:=(.n:PickO _ _ _)) (.n:SelR _ _ _)
theorem zlc {a:Int} {b:Int} (hb:0<b) (ha: -4611686018427387904≤a∧a≤4611686018427387904):Con Try.prog 72 [.int .i64 a,.int .i64 b] [] [] (Y:=Unit) (fun y=>True) (fun y=> .int .i64 (a / b)) (fun y=>[]) (fun y=>[]):=by
 refine zy Try.func72 rfl rfl rfl (fun c=> ?_)
 show RunC _ _ _ _ _ [(0,.int .i64 a),(1,.int .i64 b)] [] []
 have hq:=Ms.tdiv_le hb ha.1 ha.2
 refine ze<|za<|r_pv rfl rfl (zd rfl)<|zg<|zc<|ze<|za<|r_pv rfl rfl (zb rfl)<|r_pv rfl rfl (zb rfl)<|r_pv rfl rfl (zrc (z:=(a).tdiv b) rfl rfl (by omega) (w64 (by omega)))<|r_pv rfl rfl (zd rfl)<|zg<|zc<|ze<|ze<|za<|r_pv rfl rfl (zb rfl)<|r_pv rfl rfl (zb rfl)<|r_pv rfl rfl (zgb (z:=(a).tmod b) rfl rfl (by omega) rfl)<|r_pv rfl rfl (zE rfl rfl)<|zg<|zc<|zD rfl (fun hneg=> ?_) (fun hneg=> ?_)
 ·
  refine za<|r_pv rfl rfl (zb rfl)<|r_pv rfl rfl (zUa (z:=((a).tdiv b - 1)) rfl rfl (w64 (by omega)))<|r_pv rfl rfl (zd rfl)<|zg<|zc<|ze<|za<|r_pv rfl rfl (zb rfl)<|r_pv rfl rfl (zd rfl)<|zg<|zc<|zK ?_
  exact zB Try.results72 () trivial (zx rfl) (by rw [Ms.mean_lt hb hneg]) (ho:=(.n:PickO _ _ _)) (.n:SelR _ _ _)
 ·
  refine zu<|zc<|ze<|za<|r_pv rfl rfl (zb rfl)<|r_pv rfl rfl (zd rfl)<|zg<|zc<|zK ?_
  exact zB Try.results72 () trivial (zx rfl) (by rw [Ms.mean_ge hb hneg]) (ho:=(.n:PickO _ _ _)) (.n:SelR _ _ _)
theorem zce {n:Int}:Con Try.prog 101 [.int .i64 n] [] [] (Y:=Unit) (fun y=>True) (fun y=> .bool (Ms.farI n)) (fun y=>[]) (fun y=>[]):=by
 refine zy Try.func101 rfl rfl rfl (fun c=> ?_)
 show RunC _ _ _ _ _ [(0,.int .i64 n)] [] []
 refine ze<|za<|r_pv rfl rfl (zd rfl)<|zg<|zc<|zLa (X:=Unit) (fun x=>True) (fun x=>[(2,.bool (decide ((n<(-1048576))∨(1048576<n))))]) (fun x=>[]) (fun x=>[]) ?_ ?_
 ·
  refine za<|r_pv rfl rfl (zb rfl)<|r_pv rfl rfl (zE rfl rfl)<|zpa rfl rfl (zb rfl) (fun h1=> ?_) (fun h1=> ?_)
  ·
   refine zi rfl rfl<|zi rfl rfl<|r_pv rfl rfl (zH rfl rfl)<|r_pv rfl rfl (zd rfl)<|zg ?_
   exact zja () (show True from by first|trivial|omega|simp_all) ((.e rfl (congrArg Value.bool (by first|(simp_all;done)|(simp_all;omega)|(simp;omega)|omega)) .n):SubM _ _) (ho:=(.n:PickO _ _ _)) (.n:SelR _ _ _)
  ·
   refine r_pv rfl rfl (zb rfl)<|r_pv rfl rfl (zOa rfl rfl)<|r_pv rfl rfl (zH rfl rfl)<|r_pv rfl rfl (zd rfl)<|zg ?_
   exact zja () (show True from by first|trivial|omega|simp_all) ((.e rfl (congrArg Value.bool (by first|(simp_all;done)|(simp_all;omega)|(simp;omega)|omega)) .n):SubM _ _) (ho:=(.n:PickO _ _ _)) (.n:SelR _ _ _)
 ·
  rintro ⟨⟩ -
  try dsimp only
  refine zK ?_
  exact zB Try.results101 () trivial (zx rfl) rfl (ho:=(.n:PickO _ _ _)) (.n:SelR _ _ _)
theorem zFd {p:Option Addr} {n:Nat} {cap:Nat} {l:List (Int)} (hn:l.length=n):Con Try.prog 116 [.slice p n cap,.func (.func 101) #[] #[]] [] [slF (rI .i64) p cap l] (Y:=Int) (fun y=>(0≤y↔l.any Ms.farI=true)) (fun y=> .int .i64 y) (fun y=>[]) (fun y=>[]):=by
 refine zy Try.func116 rfl rfl rfl (fun c=> ?_)
 show RunC _ _ _ _ _ [(0,.slice p n cap),(1,.func (.func 101) #[] #[])] [] [slF (rI .i64) p cap l]
 refine zda 0 rfl (fun hL0=> ?_)
 refine ze<|za<|r_pv rfl rfl (zd rfl)<|zg<|zc<|ze<|ze<|za<|r_pv rfl rfl (zb rfl)<|r_pv rfl rfl (zJ Try.underlying50 rfl)<|r_pv rfl rfl (zb rfl)<|zg<|zc<|zq<|zha (X:=Nat) (fun x:Nat=>x≤n∧∀j,j<x→Ms.farI (l.getD j 0)=false) (fun x=>[(8,.int .i64 ((x:Nat):Int)),(7,.int .i64 ((n:Nat):Int)),(0,.slice p n cap),(1,.func (.func 101) #[] #[])]) (fun x=>[]) (fun x=>[slF (rI .i64) p cap l]) (fun x:Nat=>n - x) 0 (show 0≤n∧∀j,j<0→Ms.farI (l.getD j 0)=false from by exact ⟨by omega,fun j h=>by omega⟩) ((.e rfl (by first|rfl|(congr 1;omega)|simp_all) (.of rfl)):SubM _ _) (ho:=(.n:PickO _ _ _)) ((.c (j:=0) rfl .n):SelR _ _ _) ?_
 rintro i hI
 replace hI:i≤n∧∀j,j<i→Ms.farI (l.getD j 0)=false:=hI
 try dsimp only
 obtain ⟨hi,hall⟩:=hI
 refine ze<|za<|r_pv rfl rfl (zE rfl rfl)<|zg<|zc<|ze<|zD rfl (fun h1=> ?_) (fun h1=> ?_)
 ·
  refine zu<|zc<|ze<|zq<|ze<|za<|r_pv rfl rfl (zb rfl)<|r_pv rfl rfl (zd rfl)<|zg<|zc<|ze<|za<|r_pv rfl rfl (zb rfl)<|r_pv rfl rfl (zb rfl)<|r_pv rfl rfl (zb rfl)<|zI (x0:=(l.getD i 0)) 0 i rfl Try.underlying50 sz3 rfl rfl rfl (by first|rfl|assumption|(simp_all;done)|omega) rfl rfl (gD (d:=0) (by omega)) (fun b2 o3 hok4=> ?_)
  replace hok4:=zl.1 hok4
  refine r_u rfl rfl (zw (j:=0) 0 ty3 rfl rfl rfl rfl)<|zvc (first:=[]) (cap:=[]) rfl rfl rfl (.c rfl .n) ce101 (zce (n:=(l.getD i 0))) (.n) ?_
  rintro ⟨⟩ -
  dsimp only [List.append_eq,List.nil_append,List.cons_append]
  refine zg<|zc<|zAa rfl (fun hb=> ?_) (fun hb=> ?_)
  ·
   refine ze<|za<|r_pv rfl rfl (zb rfl)<|r_pv rfl rfl (zd rfl)<|zg<|zc<|zK<|zo<|zk<|zk<|zo<|zk ?_
   exact zB Try.results116 ((i:Nat):Int) (⟨fun _=>Ms.any_true 0 (i:=i) (by omega) (by first|exact hb|simpa using hb),fun _=>by omega⟩) (zx rfl) rfl (ho:=(.n:PickO _ _ _)) (.n:SelR _ _ _)
  ·
   refine zu<|zA<|zc<|za<|r_pv rfl rfl (zC (z:=(((i+1):Nat):Int)) rfl rfl (w64 (by omega)))<|r_pv rfl rfl (zb rfl)<|zg<|zba (i+1) (show (i+1)≤n∧∀j,j<(i+1)→Ms.farI (l.getD j 0)=false from by exact ⟨by omega,Ms.all_lt_succ hall (by first|exact hb|simpa using hb)⟩) (by show n - (i+1)<n - i;omega) ((.of rfl):SubM _ _) (ho:=(.n:PickO _ _ _)) ((.c (j:=1) rfl .n):SelR _ _ _)
 ·
  refine zX<|zj<|zj<|zp<|zc<|ze<|za<|r_pv rfl rfl (zd rfl)<|zg<|zc<|zK ?_
  exact zB Try.results116 (-1) (⟨fun h=>by omega,fun h=>by rw [Ms.any_false 0 (fun j hj=>hall j (by omega))] at h;cases h⟩) (zx rfl) rfl (ho:=(.n:PickO _ _ _)) (.n:SelR _ _ _)
theorem zGd {p:Option Addr} {n:Nat} {cap:Nat} {l:List (Int)} (hn:l.length=n):Con Try.prog 100 [.slice p n cap,.func (.func 101) #[] #[]] [] [slF (rI .i64) p cap l] (Y:=Unit) (fun y=>True) (fun y=> .bool (l.any Ms.farI)) (fun y=>[]) (fun y=>[]):=by
 refine zy Try.func100 rfl rfl rfl (fun c=> ?_)
 show RunC _ _ _ _ _ [(0,.slice p n cap),(1,.func (.func 101) #[] #[])] [] [slF (rI .i64) p cap l]
 refine zda 0 rfl (fun hL0=> ?_)
 refine ze<|za<|r_pv rfl rfl (zd rfl)<|zg<|zc<|ze<|za<|r_pv rfl rfl (zb rfl)<|r_pv rfl rfl (zb rfl)<|zfa rfl rfl (.c rfl (.c rfl .n)) ce116 (zFd (p:=p) (n:=n) (cap:=cap) (l:=l) (hn:=by assumption)) (.c (j:=0) rfl .n) ?_
 rintro r1 hr
 dsimp only [List.append_eq,List.nil_append,List.cons_append]
 replace hr:(0≤r1↔l.any Ms.farI=true):=hr
 refine r_pv rfl rfl (zcb rfl rfl)<|r_pv rfl rfl (zd rfl)<|zg<|zc<|zK ?_
 exact zB Try.results100 () trivial (zx rfl) (congrArg Value.bool (by rw [Bool.eq_iff_iff,decide_eq_true_iff];exact hr.symm)) (ho:=(.n:PickO _ _ _)) (.n:SelR _ _ _)
theorem zAe {ex:Int} {ey:Int} {ez:Int} (hx: -9223372036854775808≤ex∧ex≤9223372036854775807) (hy: -9223372036854775808≤ey∧ey≤9223372036854775807) (hz: -9223372036854775808≤ez∧ez≤9223372036854775807):Con Try.prog 79 [.agg #[.int .i64 ex,.int .i64 ey,.int .i64 ez]] [] [] (Y:=Unit) (fun y=>True) (fun y=> .bool (Ms.far (ex,ey,ez))) (fun y=>[]) (fun y=>[]):=by
 refine zy Try.func79 rfl rfl rfl (fun c=> ?_)
 show RunC _ _ _ _ _ [(0,.agg #[.int .i64 ex,.int .i64 ey,.int .i64 ez])] [] []
 refine ze<|za<|zV rfl rfl (zla rfl rfl) (fun b1=> ?_)
 refine r_pv rfl rfl (zd rfl)<|zg<|zc<|ze<|za<|r_pv rfl rfl (zn Try.underlying42 rfl sz3 rfl rfl)<|r_u rfl rfl (zf 0 ty3 rfl rfl rfl)<|r_pv rfl rfl (zn Try.underlying42 rfl sz3 rfl rfl)<|r_u rfl rfl (zf 0 ty3 rfl rfl rfl)<|r_pv rfl rfl (zn Try.underlying42 rfl sz3 rfl rfl)<|r_u rfl rfl (zf 0 ty3 rfl rfl rfl)<|zEa rfl rfl (zz (enc:=fun z:Int=>[.int .i64 z]) (ok:=InK .i64) (h1:=fun _=>rfl) (h2:=fun _=>rfl) (k:=3) Try.underlying50 inf3 rfl (by decide) (by decide) (by decide) (.c (x:=ex) rfl rfl (fun _ _=>by exact zl.2 (by omega)) (.c (x:=ey) rfl rfl (fun _ _=>by exact zl.2 (by omega)) (.c (x:=ez) rfl rfl (fun _ _=>by exact zl.2 (by omega)) .n)))) (fun b2 _=> ?_)
 refine zxa 0 rfl .z<|zea rfl rfl (.c rfl (.c rfl .n)) ce100 (zGd (p:=some ⟨b2,0,none⟩) (n:=3) (cap:=3) (l:=[ex,ey,ez]) (hn:=by first|rfl|assumption|omega|(simp;done)|(simp;omega)|(simp_all;done))) (.c (j:=0) rfl .n)<|r_pv rfl rfl (zd rfl)<|zg<|zc<|zK ?_
 exact zB Try.results79 () trivial (zx rfl) rfl (ho:=(.n:PickO _ _ _)) (.n:SelR _ _ _)
theorem zed {p:Option Addr} {n:Nat} {cap:Nat} {l:List (Int×Int×Int)} (hn:l.length=n):Con Try.prog 108 [.slice p n cap,.func (.func 79) #[] #[]] [] [slF (rI3 .i64) p cap l] (Y:=Int) (fun y=>(0≤y↔l.any Ms.far=true)) (fun y=> .int .i64 y) (fun y=>[]) (fun y=>[]):=by
 refine zy Try.func108 rfl rfl rfl (fun c=> ?_)
 show RunC _ _ _ _ _ [(0,.slice p n cap),(1,.func (.func 79) #[] #[])] [] [slF (rI3 .i64) p cap l]
 refine zda 0 rfl (fun hL0=> ?_)
 refine ze<|za<|r_pv rfl rfl (zd rfl)<|zg<|zc<|ze<|ze<|za<|r_pv rfl rfl (zb rfl)<|r_pv rfl rfl (zJ Try.underlying22 rfl)<|r_pv rfl rfl (zb rfl)<|zg<|zc<|zq<|zha (X:=Nat) (fun x:Nat=>x≤n∧∀j,j<x→Ms.far (l.getD j (0,0,0))=false) (fun x=>[(8,.int .i64 ((x:Nat):Int)),(7,.int .i64 ((n:Nat):Int)),(0,.slice p n cap),(1,.func (.func 79) #[] #[])]) (fun x=>[]) (fun x=>[slF (rI3 .i64) p cap l]) (fun x:Nat=>n - x) 0 (show 0≤n∧∀j,j<0→Ms.far (l.getD j (0,0,0))=false from by exact ⟨by omega,fun j h=>by omega⟩) ((.e rfl (by first|rfl|(congr 1;omega)|simp_all) (.of rfl)):SubM _ _) (ho:=(.n:PickO _ _ _)) ((.c (j:=0) rfl .n):SelR _ _ _) ?_
 rintro i hI
 replace hI:i≤n∧∀j,j<i→Ms.far (l.getD j (0,0,0))=false:=hI
 try dsimp only
 obtain ⟨hi,hall⟩:=hI
 refine ze<|za<|r_pv rfl rfl (zE rfl rfl)<|zg<|zc<|ze<|zD rfl (fun h1=> ?_) (fun h1=> ?_)
 ·
  refine zu<|zc<|ze<|zq<|ze<|za<|r_pv rfl rfl (zb rfl)<|r_pv rfl rfl (zd rfl)<|zg<|zc<|ze<|za<|r_pv rfl rfl (zb rfl)<|r_pv rfl rfl (zb rfl)<|r_pv rfl rfl (zb rfl)<|zI (x0:=(l.getD i (0,0,0))) 0 i rfl Try.underlying22 sz42 rfl rfl rfl (by first|rfl|assumption|(simp_all;done)|omega) rfl rfl (gD (d:=(0,0,0)) (by omega)) (fun b2 o3 hok4=> ?_)
  obtain ⟨hok4x,hok4y,hok4z⟩:=hok4
  replace hok4x:=zl.1 hok4x
  replace hok4y:=zl.1 hok4y
  replace hok4z:=zl.1 hok4z
  refine r_u rfl rfl (zG (j:=0) 0 ty42 rfl rfl rfl (.take (.take (.take .nil))))<|zvc (first:=[]) (cap:=[]) rfl rfl rfl (.c rfl .n) ce79 (zAe (ex:=(l.getD i (0,0,0)).1) (ey:=(l.getD i (0,0,0)).2.1) (ez:=(l.getD i (0,0,0)).2.2) (hx:=by first|rfl|assumption|omega|(simp;done)|(simp;omega)|(simp_all;done)) (hy:=by first|rfl|assumption|omega|(simp;done)|(simp;omega)|(simp_all;done)) (hz:=by first|rfl|assumption|omega|(simp;done)|(simp;omega)|(simp_all;done))) (.n) ?_
  rintro ⟨⟩ -
  dsimp only [List.append_eq,List.nil_append,List.cons_append]
  refine zg<|zc<|zAa rfl (fun hb=> ?_) (fun hb=> ?_)
  ·
   refine ze<|za<|r_pv rfl rfl (zb rfl)<|r_pv rfl rfl (zd rfl)<|zg<|zc<|zK<|zo<|zk<|zk<|zo<|zk ?_
   exact zB Try.results108 ((i:Nat):Int) (⟨fun _=>Ms.any_true (0,0,0) (i:=i) (by omega) (by first|exact hb|simpa using hb),fun _=>by omega⟩) (zx rfl) rfl (ho:=(.n:PickO _ _ _)) (.n:SelR _ _ _)
  ·
   refine zu<|zA<|zc<|za<|r_pv rfl rfl (zC (z:=(((i+1):Nat):Int)) rfl rfl (w64 (by omega)))<|r_pv rfl rfl (zb rfl)<|zg<|zba (i+1) (show (i+1)≤n∧∀j,j<(i+1)→Ms.far (l.getD j (0,0,0))=false from by exact ⟨by omega,Ms.all_lt_succ hall (by first|exact hb|simpa using hb)⟩) (by show n - (i+1)<n - i;omega) ((.of rfl):SubM _ _) (ho:=(.n:PickO _ _ _)) ((.c (j:=1) rfl .n):SelR _ _ _)
 ·
  refine zX<|zj<|zj<|zp<|zc<|ze<|za<|r_pv rfl rfl (zd rfl)<|zg<|zc<|zK ?_
  exact zB Try.results108 (-1) (⟨fun h=>by omega,fun h=>by rw [Ms.any_false (0,0,0) (fun j hj=>hall j (by omega))] at h;cases h⟩) (zx rfl) rfl (ho:=(.n:PickO _ _ _)) (.n:SelR _ _ _)
theorem zfd {p:Option Addr} {n:Nat} {cap:Nat} {l:List (Int×Int×Int)} (hn:l.length=n):Con Try.prog 87 [.slice p n cap,.func (.func 79) #[] #[]] [] [slF (rI3 .i64) p cap l] (Y:=Unit) (fun y=>True) (fun y=> .bool (l.any Ms.far)) (fun y=>[]) (fun y=>[]):=by
 refine zy Try.func87 rfl rfl rfl (fun c=> ?_)
 show RunC _ _ _ _ _ [(0,.slice p n cap),(1,.func (.func 79) #[] #[])] [] [slF (rI3 .i64) p cap l]
 refine zda 0 rfl (fun hL0=> ?_)
 refine ze<|za<|r_pv rfl rfl (zd rfl)<|zg<|zc<|ze<|za<|r_pv rfl rfl (zb rfl)<|r_pv rfl rfl (zb rfl)<|zfa rfl rfl (.c rfl (.c rfl .n)) ce108 (zed (p:=p) (n:=n) (cap:=cap) (l:=l) (hn:=by assumption)) (.c (j:=0) rfl .n) ?_
 rintro r1 hr
 dsimp only [List.append_eq,List.nil_append,List.cons_append]
 replace hr:(0≤r1↔l.any Ms.far=true):=hr
 refine r_pv rfl rfl (zcb rfl rfl)<|r_pv rfl rfl (zd rfl)<|zg<|zc<|zK ?_
 exact zB Try.results87 () trivial (zx rfl) (congrArg Value.bool (by rw [Bool.eq_iff_iff,decide_eq_true_iff];exact hr.symm)) (ho:=(.n:PickO _ _ _)) (.n:SelR _ _ _)
theorem zde {ex:Int} {ey:Int} {ez:Int} (hx: -9223372036854775808≤ex∧ex≤9223372036854775807) (hy: -9223372036854775808≤ey∧ey≤9223372036854775807) (hz: -9223372036854775808≤ez∧ez≤9223372036854775807):Con Try.prog 41 [.agg #[.int .i64 ex,.int .i64 ey,.int .i64 ez]] [] [] (Y:=Unit) (fun y=>True) (fun y=> .bool (Ms.far (ex,ey,ez))) (fun y=>[]) (fun y=>[]):=by
 refine zy Try.func41 rfl rfl rfl (fun c=> ?_)
 show RunC _ _ _ _ _ [(0,.agg #[.int .i64 ex,.int .i64 ey,.int .i64 ez])] [] []
 refine ze<|za<|zV rfl rfl (zla rfl rfl) (fun b1=> ?_)
 refine r_pv rfl rfl (zd rfl)<|zg<|zc<|ze<|ze<|za<|r_pv rfl rfl (zn Try.underlying42 rfl sz3 rfl rfl)<|r_u rfl rfl (zf 0 ty3 rfl rfl rfl)<|r_pv rfl rfl (zn Try.underlying42 rfl sz3 rfl rfl)<|r_u rfl rfl (zf 0 ty3 rfl rfl rfl)<|r_pv rfl rfl (zn Try.underlying42 rfl sz3 rfl rfl)<|r_u rfl rfl (zf 0 ty3 rfl rfl rfl)<|zEa rfl rfl (zz (enc:=fun z:Int=>[.int .i64 z]) (ok:=InK .i64) (h1:=fun _=>rfl) (h2:=fun _=>rfl) (k:=3) Try.underlying50 inf3 rfl (by decide) (by decide) (by decide) (.c (x:=ex) rfl rfl (fun _ _=>by exact zl.2 (by omega)) (.c (x:=ey) rfl rfl (fun _ _=>by exact zl.2 (by omega)) (.c (x:=ez) rfl rfl (fun _ _=>by exact zl.2 (by omega)) .n)))) (fun b2 _=> ?_)
 refine r_pv rfl rfl (zJ Try.underlying50 rfl)<|r_pv rfl rfl (zb rfl)<|zg<|zc<|zq<|zha (X:=Nat) (fun x:Nat=>x≤3∧∀j,j<x→Ms.farI ([ex,ey,ez].getD j 0)=false) (fun x=>[(13,.int .i64 ((x:Nat):Int)),(12,.int .i64 ((3:Nat):Int)),(11,.slice (some ⟨b2,0,none⟩) 3 3)]) (fun x=>[rowA 3 (rI .i64) (some ⟨b2,0,none⟩) 3 ([ex,ey,ez]),boxA b1 42 [.int .i64 ex,.int .i64 ey,.int .i64 ez]]) (fun x=>[]) (fun x:Nat=>3 - x) 0 (show 0≤3∧∀j,j<0→Ms.farI ([ex,ey,ez].getD j 0)=false from by exact ⟨by omega,fun j h=>by omega⟩) ((.e rfl (by first|rfl|(congr 1;omega)|simp_all) (.c rfl (.c rfl .n))):SubM _ _) (ho:=((.of [0,0] rfl):PickO _ _ _)) (.n:SelR _ _ _) ?_
 rintro i hI
 replace hI:i≤3∧∀j,j<i→Ms.farI ([ex,ey,ez].getD j 0)=false:=hI
 try dsimp only
 obtain ⟨hi,hall⟩:=hI
 refine ze<|za<|r_pv rfl rfl (zE rfl rfl)<|zg<|zc<|ze<|zD rfl (fun h3=> ?_) (fun h3=> ?_)
 ·
  refine zu<|zc<|ze<|zq<|ze<|za<|r_pv rfl rfl (zsa (j:=i) Try.underlying50 sz3 rfl rfl rfl (by first|omega|(simp;omega)))<|r_vl rfl rfl (zNa 0 i rfl ty3 rfl rfl (gD (d:=0) (by first|omega|(simp;omega))) rfl) (fun _ hok4=> ?_)
  replace hok4:=zl.1 hok4
  refine r_pv rfl rfl (zd rfl)<|zg<|zc<|zLa (X:=Unit) (fun x=>True) (fun x=>[(22,.bool (decide (((([ex,ey,ez]).getD i 0)<(-1048576))∨(1048576<(([ex,ey,ez]).getD i 0))))),(13,.int .i64 ((i:Nat):Int)),(12,.int .i64 ((3:Nat):Int)),(11,.slice (some ⟨b2,0,none⟩) 3 3)]) (fun x=>[rowA 3 (rI .i64) (some ⟨b2,0,none⟩) 3 ([ex,ey,ez]),boxA b1 42 [.int .i64 ex,.int .i64 ey,.int .i64 ez]]) (fun x=>[]) ?_ ?_
  ·
   refine za<|r_pv rfl rfl (zb rfl)<|r_pv rfl rfl (zE rfl rfl)<|zpa rfl rfl (zb rfl) (fun h5=> ?_) (fun h5=> ?_)
   ·
    refine zi rfl rfl<|zi rfl rfl<|r_pv rfl rfl (zH rfl rfl)<|zg ?_
    exact zja () (show True from by first|trivial|omega|simp_all) ((.e rfl (congrArg Value.bool (by first|(simp_all;done)|(simp_all;omega)|(simp;omega)|omega)) (.of rfl)):SubM _ _) (ho:=((.of [0,0] rfl):PickO _ _ _)) (.n:SelR _ _ _)
   ·
    refine r_pv rfl rfl (zb rfl)<|r_pv rfl rfl (zOa rfl rfl)<|r_pv rfl rfl (zH rfl rfl)<|zg ?_
    exact zja () (show True from by first|trivial|omega|simp_all) ((.e rfl (congrArg Value.bool (by first|(simp_all;done)|(simp_all;omega)|(simp;omega)|omega)) (.of rfl)):SubM _ _) (ho:=((.of [0,0] rfl):PickO _ _ _)) (.n:SelR _ _ _)
  ·
   rintro ⟨⟩ -
   try dsimp only
   refine zD rfl (fun hb=> ?_) (fun hb=> ?_)
   ·
    refine ze<|za<|r_pv rfl rfl (zd rfl)<|zg<|zc<|zK<|zo<|zk<|zk<|zo<|zk ?_
    exact zB Try.results41 () trivial (zx rfl) (congrArg Value.bool (by exact Ms.any_true (l:=[ex,ey,ez]) (f:=Ms.farI) 0 (i:=i) (by simp;omega) (by simpa [Ms.farI] using hb))) (ho:=(.n:PickO _ _ _)) (.n:SelR _ _ _)
   ·
    refine zu<|zA<|zc<|za<|r_pv rfl rfl (zC (z:=(((i+1):Nat):Int)) rfl rfl (w64 (by first|omega|(simp;omega))))<|r_pv rfl rfl (zb rfl)<|zg<|zba (i+1) (show (i+1)≤3∧∀j,j<(i+1)→Ms.farI ([ex,ey,ez].getD j 0)=false from by exact ⟨by omega,Ms.all_lt_succ hall (by simpa [Ms.farI] using hb)⟩) (by show 3 - (i+1)<3 - i;omega) ((.of rfl):SubM _ _) (ho:=((.of [0,0] rfl):PickO _ _ _)) (.n:SelR _ _ _)
 ·
  refine zX<|zj<|zj<|zp<|zc<|ze<|za<|r_pv rfl rfl (zd rfl)<|zg<|zc<|zK ?_
  exact zB Try.results41 () trivial (zx rfl) (congrArg Value.bool (by exact Ms.any_false (l:=[ex,ey,ez]) (f:=Ms.farI) 0 (fun j hj=>hall j (by simp at hj;omega)))) (ho:=(.n:PickO _ _ _)) (.n:SelR _ _ _)
theorem zHd {p1:Option Addr} {n1:Nat} {c1:Nat} {l1:List (Int)} {p2:Option Addr} {n2:Nat} {c2:Nat} {l2:List (Int)} (hn1:l1.length=n1) (hn2:l2.length=n2):Con Try.prog 28 [.slice p1 n1 c1,.slice p2 n2 c2] [] [slF (rI .i64) p1 c1 l1,slF (rI .i64) p2 c2 l2] (Y:=Unit) (fun y=>True) (fun y=> .bool (decide (l1=l2))) (fun y=>[]) (fun y=>[]):=by
 refine zy Try.func28 rfl rfl rfl (fun c=> ?_)
 show RunC _ _ _ _ _ [(0,.slice p1 n1 c1),(1,.slice p2 n2 c2)] [] [slF (rI .i64) p1 c1 l1,slF (rI .i64) p2 c2 l2]
 refine zda 0 rfl (fun hL0=> ?_)
 refine zda 1 rfl (fun hL1=> ?_)
 refine ze<|za<|r_pv rfl rfl (zd rfl)<|zg<|zc<|ze<|ze<|za<|r_pv rfl rfl (zb rfl)<|r_pv rfl rfl (zJ Try.underlying50 rfl)<|r_pv rfl rfl (zb rfl)<|r_pv rfl rfl (zJ Try.underlying50 rfl)<|r_pv rfl rfl (zMa rfl rfl)<|zg<|zc<|zD rfl (fun hlen=> ?_) (fun hlen=> ?_)
 ·
  refine ze<|za<|r_pv rfl rfl (zd rfl)<|zg<|zc<|zK<|zk ?_
  exact zB Try.results28 () trivial (zx rfl) (congrArg Value.bool (decide_eq_false (fun h=>hlen (by rw [← hn1,←hn2,h])))) (ho:=(.n:PickO _ _ _)) (.n:SelR _ _ _)
 ·
  refine zu<|zc<|ze<|ze<|za<|r_pv rfl rfl (zb rfl)<|r_pv rfl rfl (zJ Try.underlying50 rfl)<|r_pv rfl rfl (zb rfl)<|zg<|zc<|zq<|zha (X:=Nat) (fun x:Nat=>x≤n1∧∀j,j<x→l1.getD j 0=l2.getD j 0) (fun x=>[(13,.int .i64 ((x:Nat):Int)),(12,.int .i64 ((n1:Nat):Int)),(0,.slice p1 n1 c1),(1,.slice p2 n2 c2)]) (fun x=>[]) (fun x=>[slF (rI .i64) p1 c1 l1,slF (rI .i64) p2 c2 l2]) (fun x:Nat=>n1 - x) 0 (show 0≤n1∧∀j,j<0→l1.getD j 0=l2.getD j 0 from by exact ⟨by omega,fun j h=>by omega⟩) ((.e rfl (by first|rfl|(congr 1;omega)|simp_all) (.of rfl)):SubM _ _) (ho:=(.n:PickO _ _ _)) ((.of [0,1] rfl):SelR _ _ _) ?_
  rintro i hI
  replace hI:i≤n1∧∀j,j<i→l1.getD j 0=l2.getD j 0:=hI
  try dsimp only
  obtain ⟨hi,hall⟩:=hI
  refine ze<|za<|r_pv rfl rfl (zE rfl rfl)<|zg<|zc<|ze<|zD rfl (fun h1=> ?_) (fun h1=> ?_)
  ·
   refine zu<|zc<|ze<|zq<|ze<|za<|r_pv rfl rfl (zb rfl)<|r_pv rfl rfl (zd rfl)<|zg<|zc<|ze<|zva (OW:=[]) (O:=[]) 100000 mixed (.then (.block (.then (.then (.block (.then .ret)))))) (by kernel_rfl)<|d_pv 0 rfl rfl (by kernel_rfl) (by kernel_rfl) rfl rfl (zb rfl)<|d_pv 1 rfl rfl (by kernel_rfl) (by kernel_rfl) rfl rfl (zb rfl)<|zka (x0:=(l1.getD i 0)) 2 rfl rfl (by kernel_rfl) (by kernel_rfl) 0 i rfl Try.underlying50 sz3 rfl rfl rfl (by first|rfl|assumption|(simp_all;done)|omega) rfl rfl (gD (d:=0) (by omega)) (fun b2 o3 hok4=> ?_)
   replace hok4:=zl.1 hok4
   refine d_u 3 rfl rfl (by kernel_rfl) (by kernel_rfl) rfl rfl (zw (j:=0) 0 ty3 rfl rfl rfl rfl)<|d_pv 4 rfl rfl (by kernel_rfl) (by kernel_rfl) rfl rfl (zb rfl)<|d_pv 5 rfl rfl (by kernel_rfl) (by kernel_rfl) rfl rfl (zb rfl)<|zka (x0:=(l2.getD i 0)) 6 rfl rfl (by kernel_rfl) (by kernel_rfl) 2 i rfl Try.underlying50 sz3 rfl rfl rfl (by first|rfl|assumption|(simp_all;done)|omega) rfl rfl (gD (d:=0) (by omega)) (fun b5 o6 hok7=> ?_)
   replace hok7:=zl.1 hok7
   refine d_u 7 rfl rfl (by kernel_rfl) (by kernel_rfl) rfl rfl (zw (j:=0) 0 ty3 rfl rfl rfl rfl)<|d_pv 8 rfl rfl (by kernel_rfl) (by kernel_rfl) rfl rfl (zMa rfl rfl)<|zwa (by kernel_rfl)<|zc<|zD rfl (fun hd=> ?_) (fun hd=> ?_)
   ·
    refine ze<|za<|r_pv rfl rfl (zd rfl)<|zg<|zc<|zK<|zo<|zk<|zk<|zo<|zk ?_
    exact zB Try.results28 () trivial (zx rfl) (congrArg Value.bool (decide_eq_false (fun h=>hd (by simp [h])))) (ho:=(.n:PickO _ _ _)) (.n:SelR _ _ _)
   ·
    refine zu<|zA<|zc<|za<|r_pv rfl rfl (zC (z:=(((i+1):Nat):Int)) rfl rfl (w64 (by omega)))<|r_pv rfl rfl (zb rfl)<|zg<|zba (i+1) (show (i+1)≤n1∧∀j,j<(i+1)→l1.getD j 0=l2.getD j 0 from by exact ⟨by omega,Ms.all_lt_succ hall (by have h9:=Decidable.not_not.1 hd;first|exact h9|(apply Prod.ext;exact h9.1;apply Prod.ext;exact h9.2.1;exact h9.2.2))⟩) (by show n1 - (i+1)<n1 - i;omega) ((.of rfl):SubM _ _) (ho:=(.n:PickO _ _ _)) ((.of [2,3] rfl):SelR _ _ _)
  ·
   refine zX<|zj<|zj<|zp<|zc<|ze<|za<|r_pv rfl rfl (zd rfl)<|zg<|zc<|zK ?_
   exact zB Try.results28 () trivial (zx rfl) (congrArg Value.bool (decide_eq_true (Ms.ext_getD 0 (by omega) (fun j hj=>hall j (by omega))))) (ho:=(.n:PickO _ _ _)) (.n:SelR _ _ _)
theorem zgd {p1:Option Addr} {n1:Nat} {c1:Nat} {l1:List (Int×Int×Int)} {p2:Option Addr} {n2:Nat} {c2:Nat} {l2:List (Int×Int×Int)} (hn1:l1.length=n1) (hn2:l2.length=n2):Con Try.prog 70 [.slice p1 n1 c1,.slice p2 n2 c2] [] [slF (rI3 .i64) p1 c1 l1,slF (rI3 .i64) p2 c2 l2] (Y:=Unit) (fun y=>True) (fun y=> .bool (decide (l1=l2))) (fun y=>[]) (fun y=>[]):=by
 refine zy Try.func70 rfl rfl rfl (fun c=> ?_)
 show RunC _ _ _ _ _ [(0,.slice p1 n1 c1),(1,.slice p2 n2 c2)] [] [slF (rI3 .i64) p1 c1 l1,slF (rI3 .i64) p2 c2 l2]
 refine zda 0 rfl (fun hL0=> ?_)
 refine zda 1 rfl (fun hL1=> ?_)
 refine ze<|za<|r_pv rfl rfl (zd rfl)<|zg<|zc<|ze<|ze<|za<|r_pv rfl rfl (zb rfl)<|r_pv rfl rfl (zJ Try.underlying22 rfl)<|r_pv rfl rfl (zb rfl)<|r_pv rfl rfl (zJ Try.underlying22 rfl)<|r_pv rfl rfl (zMa rfl rfl)<|zg<|zc<|zD rfl (fun hlen=> ?_) (fun hlen=> ?_)
 ·
  refine ze<|za<|r_pv rfl rfl (zd rfl)<|zg<|zc<|zK<|zk ?_
  exact zB Try.results70 () trivial (zx rfl) (congrArg Value.bool (decide_eq_false (fun h=>hlen (by rw [← hn1,←hn2,h])))) (ho:=(.n:PickO _ _ _)) (.n:SelR _ _ _)
 ·
  refine zu<|zc<|ze<|ze<|za<|r_pv rfl rfl (zb rfl)<|r_pv rfl rfl (zJ Try.underlying22 rfl)<|r_pv rfl rfl (zb rfl)<|zg<|zc<|zq<|zha (X:=Nat) (fun x:Nat=>x≤n1∧∀j,j<x→l1.getD j (0,0,0)=l2.getD j (0,0,0)) (fun x=>[(13,.int .i64 ((x:Nat):Int)),(12,.int .i64 ((n1:Nat):Int)),(0,.slice p1 n1 c1),(1,.slice p2 n2 c2)]) (fun x=>[]) (fun x=>[slF (rI3 .i64) p1 c1 l1,slF (rI3 .i64) p2 c2 l2]) (fun x:Nat=>n1 - x) 0 (show 0≤n1∧∀j,j<0→l1.getD j (0,0,0)=l2.getD j (0,0,0) from by exact ⟨by omega,fun j h=>by omega⟩) ((.e rfl (by first|rfl|(congr 1;omega)|simp_all) (.of rfl)):SubM _ _) (ho:=(.n:PickO _ _ _)) ((.of [0,1] rfl):SelR _ _ _) ?_
  rintro i hI
  replace hI:i≤n1∧∀j,j<i→l1.getD j (0,0,0)=l2.getD j (0,0,0):=hI
  try dsimp only
  obtain ⟨hi,hall⟩:=hI
  refine ze<|za<|r_pv rfl rfl (zE rfl rfl)<|zg<|zc<|ze<|zD rfl (fun h1=> ?_) (fun h1=> ?_)
  ·
   refine zu<|zc<|ze<|zq<|ze<|za<|r_pv rfl rfl (zb rfl)<|r_pv rfl rfl (zd rfl)<|zg<|zc<|ze<|zva (OW:=[]) (O:=[]) 100000 mixed (.then (.block (.then (.then (.block (.then .ret)))))) (by kernel_rfl)<|d_pv 0 rfl rfl (by kernel_rfl) (by kernel_rfl) rfl rfl (zb rfl)<|d_pv 1 rfl rfl (by kernel_rfl) (by kernel_rfl) rfl rfl (zb rfl)<|zka (x0:=(l1.getD i (0,0,0))) 2 rfl rfl (by kernel_rfl) (by kernel_rfl) 0 i rfl Try.underlying22 sz42 rfl rfl rfl (by first|rfl|assumption|(simp_all;done)|omega) rfl rfl (gD (d:=(0,0,0)) (by omega)) (fun b2 o3 hok4=> ?_)
   obtain ⟨hok4x,hok4y,hok4z⟩:=hok4
   replace hok4x:=zl.1 hok4x
   replace hok4y:=zl.1 hok4y
   replace hok4z:=zl.1 hok4z
   refine d_u 3 rfl rfl (by kernel_rfl) (by kernel_rfl) rfl rfl (zG (j:=0) 0 ty42 rfl rfl rfl (.take (.take (.take .nil))))<|d_pv 4 rfl rfl (by kernel_rfl) (by kernel_rfl) rfl rfl (zb rfl)<|d_pv 5 rfl rfl (by kernel_rfl) (by kernel_rfl) rfl rfl (zb rfl)<|zka (x0:=(l2.getD i (0,0,0))) 6 rfl rfl (by kernel_rfl) (by kernel_rfl) 2 i rfl Try.underlying22 sz42 rfl rfl rfl (by first|rfl|assumption|(simp_all;done)|omega) rfl rfl (gD (d:=(0,0,0)) (by omega)) (fun b5 o6 hok7=> ?_)
   obtain ⟨hok7x,hok7y,hok7z⟩:=hok7
   replace hok7x:=zl.1 hok7x
   replace hok7y:=zl.1 hok7y
   replace hok7z:=zl.1 hok7z
   refine d_u 7 rfl rfl (by kernel_rfl) (by kernel_rfl) rfl rfl (zG (j:=0) 0 ty42 rfl rfl rfl (.take (.take (.take .nil))))<|d_pv 8 rfl rfl (by kernel_rfl) (by kernel_rfl) rfl rfl (zac (p:=(l1.getD i (0,0,0)).1=(l2.getD i (0,0,0)).1∧(l1.getD i (0,0,0)).2.1=(l2.getD i (0,0,0)).2.1∧(l1.getD i (0,0,0)).2.2=(l2.getD i (0,0,0)).2.2) (by kernel_rfl) rfl rfl (zbd Try.underlying42 (by kernel_rfl) (zPc (by decide) ty3 rfl rfl (zmb Try.underlying3) (zPc (by decide) ty3 rfl rfl (zmb Try.underlying3) (zPc (by decide) ty3 rfl rfl (zmb Try.underlying3) zwe)))) (by simp [Bool.decide_and]))<|zwa (by kernel_rfl)<|zc<|zD rfl (fun hd=> ?_) (fun hd=> ?_)
   ·
    refine ze<|za<|r_pv rfl rfl (zd rfl)<|zg<|zc<|zK<|zo<|zk<|zk<|zo<|zk ?_
    exact zB Try.results70 () trivial (zx rfl) (congrArg Value.bool (decide_eq_false (fun h=>hd (by simp [h])))) (ho:=(.n:PickO _ _ _)) (.n:SelR _ _ _)
   ·
    refine zu<|zA<|zc<|za<|r_pv rfl rfl (zC (z:=(((i+1):Nat):Int)) rfl rfl (w64 (by omega)))<|r_pv rfl rfl (zb rfl)<|zg<|zba (i+1) (show (i+1)≤n1∧∀j,j<(i+1)→l1.getD j (0,0,0)=l2.getD j (0,0,0) from by exact ⟨by omega,Ms.all_lt_succ hall (by have h9:=Decidable.not_not.1 hd;first|exact h9|(apply Prod.ext;exact h9.1;apply Prod.ext;exact h9.2.1;exact h9.2.2))⟩) (by show n1 - (i+1)<n1 - i;omega) ((.of rfl):SubM _ _) (ho:=(.n:PickO _ _ _)) ((.of [2,3] rfl):SelR _ _ _)
  ·
   refine zX<|zj<|zj<|zp<|zc<|ze<|za<|r_pv rfl rfl (zd rfl)<|zg<|zc<|zK ?_
   exact zB Try.results70 () trivial (zx rfl) (congrArg Value.bool (decide_eq_true (Ms.ext_getD (0,0,0) (by omega) (fun j hj=>hall j (by omega))))) (ho:=(.n:PickO _ _ _)) (.n:SelR _ _ _)
theorem zhd {p1:Option Addr} {n1:Nat} {c1:Nat} {l1:List (Int×Int×Int)} {p2:Option Addr} {n2:Nat} {c2:Nat} {l2:List (Int×Int×Int)} (hn1:l1.length=n1) (hn2:l2.length=n2):Con Try.prog 71 [.slice p1 n1 c1,.slice p2 n2 c2] [] [slF (rI3 .i64) p1 c1 l1,slF (rI3 .i64) p2 c2 l2] (Y:=Unit) (fun y=>True) (fun y=> .bool (decide (l1=l2))) (fun y=>[]) (fun y=>[]):=by
 refine zy Try.func71 rfl rfl rfl (fun c=> ?_)
 show RunC _ _ _ _ _ [(0,.slice p1 n1 c1),(1,.slice p2 n2 c2)] [] [slF (rI3 .i64) p1 c1 l1,slF (rI3 .i64) p2 c2 l2]
 refine zda 0 rfl (fun hL0=> ?_)
 refine zda 1 rfl (fun hL1=> ?_)
 refine ze<|za<|r_pv rfl rfl (zd rfl)<|zg<|zc<|ze<|ze<|za<|r_pv rfl rfl (zb rfl)<|r_pv rfl rfl (zJ Try.underlying23 rfl)<|r_pv rfl rfl (zb rfl)<|r_pv rfl rfl (zJ Try.underlying23 rfl)<|r_pv rfl rfl (zMa rfl rfl)<|zg<|zc<|zD rfl (fun hlen=> ?_) (fun hlen=> ?_)
 ·
  refine ze<|za<|r_pv rfl rfl (zd rfl)<|zg<|zc<|zK<|zk ?_
  exact zB Try.results71 () trivial (zx rfl) (congrArg Value.bool (decide_eq_false (fun h=>hlen (by rw [← hn1,←hn2,h])))) (ho:=(.n:PickO _ _ _)) (.n:SelR _ _ _)
 ·
  refine zu<|zc<|ze<|ze<|za<|r_pv rfl rfl (zb rfl)<|r_pv rfl rfl (zJ Try.underlying23 rfl)<|r_pv rfl rfl (zb rfl)<|zg<|zc<|zq<|zha (X:=Nat) (fun x:Nat=>x≤n1∧∀j,j<x→l1.getD j (0,0,0)=l2.getD j (0,0,0)) (fun x=>[(13,.int .i64 ((x:Nat):Int)),(12,.int .i64 ((n1:Nat):Int)),(0,.slice p1 n1 c1),(1,.slice p2 n2 c2)]) (fun x=>[]) (fun x=>[slF (rI3 .i64) p1 c1 l1,slF (rI3 .i64) p2 c2 l2]) (fun x:Nat=>n1 - x) 0 (show 0≤n1∧∀j,j<0→l1.getD j (0,0,0)=l2.getD j (0,0,0) from by exact ⟨by omega,fun j h=>by omega⟩) ((.e rfl (by first|rfl|(congr 1;omega)|simp_all) (.of rfl)):SubM _ _) (ho:=(.n:PickO _ _ _)) ((.of [0,1] rfl):SelR _ _ _) ?_
  rintro i hI
  replace hI:i≤n1∧∀j,j<i→l1.getD j (0,0,0)=l2.getD j (0,0,0):=hI
  try dsimp only
  obtain ⟨hi,hall⟩:=hI
  refine ze<|za<|r_pv rfl rfl (zE rfl rfl)<|zg<|zc<|ze<|zD rfl (fun h1=> ?_) (fun h1=> ?_)
  ·
   refine zu<|zc<|ze<|zq<|ze<|za<|r_pv rfl rfl (zb rfl)<|r_pv rfl rfl (zd rfl)<|zg<|zc<|ze<|zva (OW:=[]) (O:=[]) 100000 mixed (.then (.block (.then (.then (.block (.then .ret)))))) (by kernel_rfl)<|d_pv 0 rfl rfl (by kernel_rfl) (by kernel_rfl) rfl rfl (zb rfl)<|d_pv 1 rfl rfl (by kernel_rfl) (by kernel_rfl) rfl rfl (zb rfl)<|zka (x0:=(l1.getD i (0,0,0))) 2 rfl rfl (by kernel_rfl) (by kernel_rfl) 0 i rfl Try.underlying23 sz44 rfl rfl rfl (by first|rfl|assumption|(simp_all;done)|omega) rfl rfl (gD (d:=(0,0,0)) (by omega)) (fun b2 o3 hok4=> ?_)
   obtain ⟨hok4x,hok4y,hok4z⟩:=hok4
   replace hok4x:=zl.1 hok4x
   replace hok4y:=zl.1 hok4y
   replace hok4z:=zl.1 hok4z
   refine d_u 3 rfl rfl (by kernel_rfl) (by kernel_rfl) rfl rfl (zG (j:=0) 0 ty44 rfl rfl rfl (.take (.take (.take .nil))))<|d_pv 4 rfl rfl (by kernel_rfl) (by kernel_rfl) rfl rfl (zb rfl)<|d_pv 5 rfl rfl (by kernel_rfl) (by kernel_rfl) rfl rfl (zb rfl)<|zka (x0:=(l2.getD i (0,0,0))) 6 rfl rfl (by kernel_rfl) (by kernel_rfl) 2 i rfl Try.underlying23 sz44 rfl rfl rfl (by first|rfl|assumption|(simp_all;done)|omega) rfl rfl (gD (d:=(0,0,0)) (by omega)) (fun b5 o6 hok7=> ?_)
   obtain ⟨hok7x,hok7y,hok7z⟩:=hok7
   replace hok7x:=zl.1 hok7x
   replace hok7y:=zl.1 hok7y
   replace hok7z:=zl.1 hok7z
   refine d_u 7 rfl rfl (by kernel_rfl) (by kernel_rfl) rfl rfl (zG (j:=0) 0 ty44 rfl rfl rfl (.take (.take (.take .nil))))<|d_pv 8 rfl rfl (by kernel_rfl) (by kernel_rfl) rfl rfl (zac (p:=(l1.getD i (0,0,0)).1=(l2.getD i (0,0,0)).1∧(l1.getD i (0,0,0)).2.1=(l2.getD i (0,0,0)).2.1∧(l1.getD i (0,0,0)).2.2=(l2.getD i (0,0,0)).2.2) (by kernel_rfl) rfl rfl (zyc Try.underlying44 sz3 (zNb ty3 rfl rfl (zmb Try.underlying3) (zNb ty3 rfl rfl (zmb Try.underlying3) (zNb ty3 rfl rfl (zmb Try.underlying3) zud)))) (by simp [Bool.decide_and]))<|zwa (by kernel_rfl)<|zc<|zD rfl (fun hd=> ?_) (fun hd=> ?_)
   ·
    refine ze<|za<|r_pv rfl rfl (zd rfl)<|zg<|zc<|zK<|zo<|zk<|zk<|zo<|zk ?_
    exact zB Try.results71 () trivial (zx rfl) (congrArg Value.bool (decide_eq_false (fun h=>hd (by simp [h])))) (ho:=(.n:PickO _ _ _)) (.n:SelR _ _ _)
   ·
    refine zu<|zA<|zc<|za<|r_pv rfl rfl (zC (z:=(((i+1):Nat):Int)) rfl rfl (w64 (by omega)))<|r_pv rfl rfl (zb rfl)<|zg<|zba (i+1) (show (i+1)≤n1∧∀j,j<(i+1)→l1.getD j (0,0,0)=l2.getD j (0,0,0) from by exact ⟨by omega,Ms.all_lt_succ hall (by have h9:=Decidable.not_not.1 hd;first|exact h9|(apply Prod.ext;exact h9.1;apply Prod.ext;exact h9.2.1;exact h9.2.2))⟩) (by show n1 - (i+1)<n1 - i;omega) ((.of rfl):SubM _ _) (ho:=(.n:PickO _ _ _)) ((.of [2,3] rfl):SelR _ _ _)
  ·
   refine zX<|zj<|zj<|zp<|zc<|ze<|za<|r_pv rfl rfl (zd rfl)<|zg<|zc<|zK ?_
   exact zB Try.results71 () trivial (zx rfl) (congrArg Value.bool (decide_eq_true (Ms.ext_getD (0,0,0) (by omega) (fun j hj=>hall j (by omega))))) (ho:=(.n:PickO _ _ _)) (.n:SelR _ _ _)
theorem zcc {p:Option Addr} {n:Nat} {cap:Nat} {l:List (Int×Int×Int)} (hn:l.length=n) (hb:n≤1048576):Con Try.prog 67 [.slice p n cap] [] [slF (rI3 .i64) p cap l] (Y:=(Option Addr)×Nat) (fun y=>True) (fun y=> .slice (y.1) (l.length) (y.2)) (fun y=>[rowA 42 (rI3 .i64) (y.1) (y.2) l]) (fun y=>[]):=by
 refine zy Try.func67 rfl rfl rfl (fun c=> ?_)
 show RunC _ _ _ _ _ [(0,.slice p n cap)] [] [slF (rI3 .i64) p cap l]
 refine zda 0 rfl (fun hL0=> ?_)
 refine c_nil 0 rfl (fun hnil=> ?_)
 refine ze<|za<|r_pv rfl rfl (zd rfl)<|zg<|zc<|ze<|ze<|za<|r_pv rfl rfl (zb rfl)<|r_pv rfl rfl (zDb Try.underlying22 rfl rfl)<|zg<|zc<|zAa rfl (fun h0=> ?_) (fun h0=> ?_)
 ·
  refine ze<|za<|r_pv rfl rfl (zd rfl)<|zg<|zc<|zK<|zk ?_
  obtain rfl:l=[]:=hnil (by simpa using h0)
  refine zWc 42 (rI3 .i64) ?_
  exact zB Try.results67 (none,0) trivial (zx rfl) rfl (ho:=((.c (i:=0) rfl .n):PickO _ _ _)) (.n:SelR _ _ _)
 ·
  refine zu<|zc<|ze<|za<|zEa rfl rfl (zP (rI3 .i64) Try.underlying22 inf42) (fun b1 _=> ?_)
  refine r_pv rfl rfl (zb rfl)<|zBa 0 rfl rfl rfl (zW 0 rfl Try.underlying22 inf42 (by decide) rfl rfl (by first|rfl|assumption|(simp_all;done)|omega) rfl (by first|rfl|assumption|(simp_all;done)|omega) (by first|omega|(simp;omega)) (by first|omega|(simp;omega))) (fun _=> .z) ?_
  rintro ⟨p2,c3⟩ -
  dsimp only [List.append_eq,List.nil_append,List.cons_append]
  refine r_pv rfl rfl (zd rfl)<|zg<|zc<|zK ?_
  exact zB Try.results67 (p2,c3) trivial (zx rfl) (by simp [hn]) (ho:=((.c (i:=0) rfl .n):PickO _ _ _)) (.n:SelR _ _ _)
theorem zdc {p:Option Addr} {n:Nat} {cap:Nat} {l:List (Int×Int×Int)} (hn:l.length=n) (hb:n≤1048576):Con Try.prog 68 [.slice p n cap] [] [slF (rI3 .i64) p cap l] (Y:=(Option Addr)×Nat) (fun y=>True) (fun y=> .slice (y.1) (l.length) (y.2)) (fun y=>[rowA 44 (rI3 .i64) (y.1) (y.2) l]) (fun y=>[]):=by
 refine zy Try.func68 rfl rfl rfl (fun c=> ?_)
 show RunC _ _ _ _ _ [(0,.slice p n cap)] [] [slF (rI3 .i64) p cap l]
 refine zda 0 rfl (fun hL0=> ?_)
 refine c_nil 0 rfl (fun hnil=> ?_)
 refine ze<|za<|r_pv rfl rfl (zd rfl)<|zg<|zc<|ze<|ze<|za<|r_pv rfl rfl (zb rfl)<|r_pv rfl rfl (zDb Try.underlying23 rfl rfl)<|zg<|zc<|zAa rfl (fun h0=> ?_) (fun h0=> ?_)
 ·
  refine ze<|za<|r_pv rfl rfl (zd rfl)<|zg<|zc<|zK<|zk ?_
  obtain rfl:l=[]:=hnil (by simpa using h0)
  refine zWc 44 (rI3 .i64) ?_
  exact zB Try.results68 (none,0) trivial (zx rfl) rfl (ho:=((.c (i:=0) rfl .n):PickO _ _ _)) (.n:SelR _ _ _)
 ·
  refine zu<|zc<|ze<|za<|zEa rfl rfl (zP (rI3 .i64) Try.underlying23 inf44) (fun b1 _=> ?_)
  refine r_pv rfl rfl (zb rfl)<|zBa 0 rfl rfl rfl (zW 0 rfl Try.underlying23 inf44 (by decide) rfl rfl (by first|rfl|assumption|(simp_all;done)|omega) rfl (by first|rfl|assumption|(simp_all;done)|omega) (by first|omega|(simp;omega)) (by first|omega|(simp;omega))) (fun _=> .z) ?_
  rintro ⟨p2,c3⟩ -
  dsimp only [List.append_eq,List.nil_append,List.cons_append]
  refine r_pv rfl rfl (zd rfl)<|zg<|zc<|zK ?_
  exact zB Try.results68 (p2,c3) trivial (zx rfl) (by simp [hn]) (ho:=((.c (i:=0) rfl .n):PickO _ _ _)) (.n:SelR _ _ _)
end Go.Proofs.Ytalfgjpbbongcaa.Sp
namespace Go.Proofs.Ytalfgjpbbongcaa.Sp
open Go
set_option linter.unusedVariables false
set_option maxRecDepth 100000
set_option maxHeartbeats 8000000
theorem zmc {ex:Int} {ey:Int} {ez:Int} {w:Int}:Con Try.prog 52 [.agg #[.int .i64 ex,.int .i64 ey,.int .i64 ez],.int .i64 w] [] [] (Y:=Unit) (fun y=>True) (fun y=> .bool (Ms.hasV (ex,ey,ez) w)) (fun y=>[]) (fun y=>[]):=by
 refine zy Try.func52 rfl rfl rfl (fun c=> ?_)
 show RunC _ _ _ _ _ [(0,.agg #[.int .i64 ex,.int .i64 ey,.int .i64 ez]),(1,.int .i64 w)] [] []
 refine ze<|za<|zV rfl rfl (zla rfl rfl) (fun b1=> ?_)
 refine r_pv rfl rfl (zd rfl)<|zg<|zc<|zLa (X:=Unit) (fun x=>True) (fun x=>[(4,.bool (decide (((ex=w)∨(ey=w))∨(ez=w))))]) (fun x=>[boxA b1 44 [.int .i64 ex,.int .i64 ey,.int .i64 ez]]) (fun x=>[]) ?_ ?_
 ·
  refine za<|r_pv rfl rfl (zm (i:=0) Try.underlying44 sz3 rfl rfl (by decide) rfl)<|r_u rfl rfl (zf 0 ty3 rfl rfl rfl)<|r_pv rfl rfl (zb rfl)<|r_pv rfl rfl (zFa rfl rfl)<|zpa rfl rfl (zb rfl) (fun h2=> ?_) (fun h2=> ?_)
  ·
   refine zi rfl rfl<|zi rfl rfl<|zi rfl rfl<|zi rfl rfl<|r_pv rfl rfl (zH rfl rfl)<|r_pv rfl rfl (zb rfl)<|zi rfl rfl<|zi rfl rfl<|zi rfl rfl<|zi rfl rfl<|r_pv rfl rfl (zH rfl rfl)<|r_pv rfl rfl (zd rfl)<|zg ?_
   exact zja () (show True from by first|trivial|omega|simp_all) ((.e rfl (congrArg Value.bool (by first|(simp_all;done)|(simp_all;omega)|(simp;omega)|omega)) .n):SubM _ _) (ho:=((.c (i:=0) rfl .n):PickO _ _ _)) (.n:SelR _ _ _)
  ·
   refine r_pv rfl rfl (zm (i:=1) Try.underlying44 sz3 rfl rfl (by decide) rfl)<|r_u rfl rfl (zf 0 ty3 rfl rfl rfl)<|r_pv rfl rfl (zb rfl)<|r_pv rfl rfl (zFa rfl rfl)<|r_pv rfl rfl (zH rfl rfl)<|zpa rfl rfl (zb rfl) (fun h3=> ?_) (fun h3=> ?_)
   ·
    refine zi rfl rfl<|zi rfl rfl<|zi rfl rfl<|zi rfl rfl<|r_pv rfl rfl (zH rfl rfl)<|r_pv rfl rfl (zd rfl)<|zg ?_
    exact zja () (show True from by first|trivial|omega|simp_all) ((.e rfl (congrArg Value.bool (by first|(simp_all;done)|(simp_all;omega)|(simp;omega)|omega)) .n):SubM _ _) (ho:=((.c (i:=0) rfl .n):PickO _ _ _)) (.n:SelR _ _ _)
   ·
    refine r_pv rfl rfl (zm (i:=2) Try.underlying44 sz3 rfl rfl (by decide) rfl)<|r_u rfl rfl (zf 0 ty3 rfl rfl rfl)<|r_pv rfl rfl (zb rfl)<|r_pv rfl rfl (zFa rfl rfl)<|r_pv rfl rfl (zH rfl rfl)<|r_pv rfl rfl (zd rfl)<|zg ?_
    exact zja () (show True from by first|trivial|omega|simp_all) ((.e rfl (congrArg Value.bool (by first|(simp_all;done)|(simp_all;omega)|(simp;omega)|omega)) .n):SubM _ _) (ho:=((.c (i:=0) rfl .n):PickO _ _ _)) (.n:SelR _ _ _)
 ·
  rintro ⟨⟩ -
  try dsimp only
  refine zK ?_
  exact zB Try.results52 () trivial (zx rfl) (congrArg Value.bool (by first|(simp [Ms.hasV,or_assoc];done)|(simp_all [Ms.hasV,or_assoc];done))) (ho:=(.n:PickO _ _ _)) (.n:SelR _ _ _)
theorem zBe {pv:Option Addr} {nv:Nat} {cv:Nat} {V:List (Int×Int×Int)} {pf:Option Addr} {nf:Nat} {cf:Nat} {F:List (Int×Int×Int)} (hnv:V.length=nv) (hnf:F.length=nf):Con Try.prog 13 [.agg #[.slice pv nv cv,.slice pf nf cf]] [] [slF (rI3 .i64) pv cv V,slF (rI3 .i64) pf cf F] (Y:=Unit) (fun y=>True) (fun y=> .bool (decide (((nv:Nat):Int)≤16∧((nf:Nat):Int)≤24))) (fun y=>[]) (fun y=>[]):=by
 refine zy Try.func13 rfl rfl rfl (fun c=> ?_)
 show RunC _ _ _ _ _ [(0,.agg #[.slice pv nv cv,.slice pf nf cf])] [] [slF (rI3 .i64) pv cv V,slF (rI3 .i64) pf cf F]
 refine zda 0 rfl (fun hL0=> ?_)
 refine zda 1 rfl (fun hL1=> ?_)
 refine ze<|za<|zV rfl rfl (zla rfl rfl) (fun b1=> ?_)
 refine r_pv rfl rfl (zd rfl)<|zg<|zc<|zLa (X:=Unit) (fun x=>True) (fun x=>[(2,.bool (decide ((((nv:Nat):Int)≤16)∧(((nf:Nat):Int)≤24))))]) (fun x=>[boxA b1 25 [.slice pv nv cv,.slice pf nf cf]]) (fun x=>[slF (rI3 .i64) pv cv V,slF (rI3 .i64) pf cf F]) ?_ ?_
 ·
  refine za<|r_pv rfl rfl (zn Try.underlying25 rfl sz22 rfl rfl)<|r_u rfl rfl (zf 0 ty22 rfl rfl rfl)<|r_pv rfl rfl (zJ Try.underlying22 rfl)<|r_pv rfl rfl (zle rfl rfl)<|zpa rfl rfl (zb rfl) (fun h2=> ?_) (fun h2=> ?_)
  ·
   refine r_pv rfl rfl (zn Try.underlying25 rfl sz23 rfl rfl)<|r_u rfl rfl (zf 0 ty23 rfl rfl rfl)<|r_pv rfl rfl (zJ Try.underlying23 rfl)<|r_pv rfl rfl (zle rfl rfl)<|r_pv rfl rfl (zH rfl rfl)<|r_pv rfl rfl (zd rfl)<|zg ?_
   exact zja () (show True from by first|trivial|omega|simp_all) ((.e rfl (congrArg Value.bool (by first|(simp_all;done)|(simp_all;omega)|(simp;omega)|omega)) .n):SubM _ _) (ho:=((.c (i:=0) rfl .n):PickO _ _ _)) ((.of [0,1] rfl):SelR _ _ _)
  ·
   refine zi rfl rfl<|zi rfl rfl<|zi rfl rfl<|zi rfl rfl<|r_pv rfl rfl (zH rfl rfl)<|r_pv rfl rfl (zd rfl)<|zg ?_
   exact zja () (show True from by first|trivial|omega|simp_all) ((.e rfl (congrArg Value.bool (by first|(simp_all;done)|(simp_all;omega)|(simp;omega)|omega)) .n):SubM _ _) (ho:=((.c (i:=0) rfl .n):PickO _ _ _)) ((.of [0,1] rfl):SelR _ _ _)
 ·
  rintro ⟨⟩ -
  try dsimp only
  refine zK ?_
  exact zB Try.results13 () trivial (zx rfl) (congrArg Value.bool (by first|rfl|(simp;omega)|simp_all)) (ho:=(.n:PickO _ _ _)) (.n:SelR _ _ _)
theorem zZc {pv:Option Addr} {nv:Nat} {cv:Nat} {V:List (Int×Int×Int)} {pf:Option Addr} {nf:Nat} {cf:Nat} {F:List (Int×Int×Int)} {pv2:Option Addr} {nv2:Nat} {cv2:Nat} {V2:List (Int×Int×Int)} {pf2:Option Addr} {nf2:Nat} {cf2:Nat} {F2:List (Int×Int×Int)} (hnv:V.length=nv) (hnf:F.length=nf) (hnv2:V2.length=nv2) (hnf2:F2.length=nf2):Con Try.prog 32 [.agg #[.slice pv nv cv,.slice pf nf cf],.agg #[.slice pv2 nv2 cv2,.slice pf2 nf2 cf2]] [] [slF (rI3 .i64) pv cv V,slF (rI3 .i64) pf cf F,slF (rI3 .i64) pv2 cv2 V2,slF (rI3 .i64) pf2 cf2 F2] (Y:=Unit) (fun y=>True) (fun y=> .bool (decide (V=V2∧F=F2))) (fun y=>[]) (fun y=>[]):=by
 refine zy Try.func32 rfl rfl rfl (fun c=> ?_)
 show RunC _ _ _ _ _ [(0,.agg #[.slice pv nv cv,.slice pf nf cf]),(1,.agg #[.slice pv2 nv2 cv2,.slice pf2 nf2 cf2])] [] [slF (rI3 .i64) pv cv V,slF (rI3 .i64) pf cf F,slF (rI3 .i64) pv2 cv2 V2,slF (rI3 .i64) pf2 cf2 F2]
 refine zda 0 rfl (fun hL0=> ?_)
 refine zda 1 rfl (fun hL1=> ?_)
 refine zda 2 rfl (fun hL2=> ?_)
 refine zda 3 rfl (fun hL3=> ?_)
 refine ze<|za<|zV rfl rfl (zla rfl rfl) (fun b1=> ?_)
 refine zV rfl rfl (zla rfl rfl) (fun b2=> ?_)
 refine r_pv rfl rfl (zd rfl)<|zg<|zc<|zLa (X:=Unit) (fun x=>True) (fun x=>[(4,.bool (decide ((V=V2)∧(F=F2))))]) (fun x=>[boxA b2 25 [.slice pv2 nv2 cv2,.slice pf2 nf2 cf2],boxA b1 25 [.slice pv nv cv,.slice pf nf cf]]) (fun x=>[slF (rI3 .i64) pv cv V,slF (rI3 .i64) pf cf F,slF (rI3 .i64) pv2 cv2 V2,slF (rI3 .i64) pf2 cf2 F2]) ?_ ?_
 ·
  refine za<|r_pv rfl rfl (zn Try.underlying25 rfl sz22 rfl rfl)<|r_u rfl rfl (zf 1 ty22 rfl rfl rfl)<|r_pv rfl rfl (zn Try.underlying25 rfl sz22 rfl rfl)<|r_u rfl rfl (zf 0 ty22 rfl rfl rfl)<|zea rfl rfl (.c rfl (.c rfl .n)) ce70 (zgd (p1:=pv) (n1:=nv) (c1:=cv) (l1:=V) (p2:=pv2) (n2:=nv2) (c2:=cv2) (l2:=V2) (hn1:=by assumption) (hn2:=by assumption)) (.c (j:=0) rfl (.c (j:=2) rfl .n))<|zpa rfl rfl (zb rfl) (fun h3=> ?_) (fun h3=> ?_)
  ·
   refine r_pv rfl rfl (zn Try.underlying25 rfl sz23 rfl rfl)<|r_u rfl rfl (zf 1 ty23 rfl rfl rfl)<|r_pv rfl rfl (zn Try.underlying25 rfl sz23 rfl rfl)<|r_u rfl rfl (zf 0 ty23 rfl rfl rfl)<|zea rfl rfl (.c rfl (.c rfl .n)) ce71 (zhd (p1:=pf) (n1:=nf) (c1:=cf) (l1:=F) (p2:=pf2) (n2:=nf2) (c2:=cf2) (l2:=F2) (hn1:=by assumption) (hn2:=by assumption)) (.c (j:=1) rfl (.c (j:=3) rfl .n))<|r_pv rfl rfl (zH rfl rfl)<|r_pv rfl rfl (zd rfl)<|zg ?_
   exact zja () (show True from by first|trivial|omega|simp_all) ((.e rfl (congrArg Value.bool (by first|(simp_all;done)|(simp_all;omega)|(simp;omega)|omega)) .n):SubM _ _) (ho:=((.of [0,0] rfl):PickO _ _ _)) ((.of [0,1,2,3] rfl):SelR _ _ _)
  ·
   refine zi rfl rfl<|zi rfl rfl<|zi rfl rfl<|zi rfl rfl<|zi rfl rfl<|r_pv rfl rfl (zH rfl rfl)<|r_pv rfl rfl (zd rfl)<|zg ?_
   exact zja () (show True from by first|trivial|omega|simp_all) ((.e rfl (congrArg Value.bool (by first|(simp_all;done)|(simp_all;omega)|(simp;omega)|omega)) .n):SubM _ _) (ho:=((.of [0,0] rfl):PickO _ _ _)) ((.of [0,1,2,3] rfl):SelR _ _ _)
 ·
  rintro ⟨⟩ -
  try dsimp only
  refine zK ?_
  exact zB Try.results32 () trivial (zx rfl) (congrArg Value.bool (by first|rfl|simp_all)) (ho:=(.n:PickO _ _ _)) (.n:SelR _ _ _)
theorem zee {pv:Option Addr} {nv:Nat} {cv:Nat} {V:List (Int×Int×Int)} {pf:Option Addr} {nf:Nat} {cf:Nat} {F:List (Int×Int×Int)} (hnv:V.length=nv) (hnf:F.length=nf):Con Try.prog 46 [.agg #[.slice pv nv cv,.slice pf nf cf]] [] [slF (rI3 .i64) pv cv V,slF (rI3 .i64) pf cf F] (Y:=Unit) (fun y=>True) (fun y=> .int .i64 (Ms.form V F)) (fun y=>[]) (fun y=>[]):=by
 refine zy Try.func46 rfl rfl rfl (fun c=> ?_)
 show RunC _ _ _ _ _ [(0,.agg #[.slice pv nv cv,.slice pf nf cf])] [] [slF (rI3 .i64) pv cv V,slF (rI3 .i64) pf cf F]
 refine zda 0 rfl (fun hL0=> ?_)
 refine zda 1 rfl (fun hL1=> ?_)
 refine ze<|za<|zV rfl rfl (zla rfl rfl) (fun b1=> ?_)
 refine r_pv rfl rfl (zd rfl)<|zg<|zc<|ze<|zLa (X:=Unit) (fun x=>True) (fun x=>[(16,.bool (decide ((512<((nv:Nat):Int))∨(1024<((nf:Nat):Int))))),(2,.int .i64 0),(1,.pointer (some ⟨b1,0,none⟩))]) (fun x=>[boxA b1 25 [.slice pv nv cv,.slice pf nf cf]]) (fun x=>[slF (rI3 .i64) pv cv V,slF (rI3 .i64) pf cf F]) ?_ ?_
 ·
  refine za<|r_pv rfl rfl (zn Try.underlying25 rfl sz22 rfl rfl)<|r_u rfl rfl (zf 0 ty22 rfl rfl rfl)<|r_pv rfl rfl (zJ Try.underlying22 rfl)<|r_pv rfl rfl (zOa rfl rfl)<|zpa rfl rfl (zb rfl) (fun h2=> ?_) (fun h2=> ?_)
  ·
   refine zi rfl rfl<|zi rfl rfl<|zi rfl rfl<|zi rfl rfl<|r_pv rfl rfl (zH rfl rfl)<|zg ?_
   exact zja () (show True from by first|trivial|omega|simp_all) ((.e rfl (congrArg Value.bool (by first|(simp_all;done)|(simp_all;omega)|(simp;omega)|omega)) (.c rfl (.c rfl .n))):SubM _ _) (ho:=((.c (i:=0) rfl .n):PickO _ _ _)) ((.of [0,1] rfl):SelR _ _ _)
  ·
   refine r_pv rfl rfl (zn Try.underlying25 rfl sz23 rfl rfl)<|r_u rfl rfl (zf 0 ty23 rfl rfl rfl)<|r_pv rfl rfl (zJ Try.underlying23 rfl)<|r_pv rfl rfl (zOa rfl rfl)<|r_pv rfl rfl (zH rfl rfl)<|zg ?_
   exact zja () (show True from by first|trivial|omega|simp_all) ((.e rfl (congrArg Value.bool (by first|(simp_all;done)|(simp_all;omega)|(simp;omega)|omega)) (.c rfl (.c rfl .n))):SubM _ _) (ho:=((.c (i:=0) rfl .n):PickO _ _ _)) ((.of [0,1] rfl):SelR _ _ _)
 ·
  rintro ⟨⟩ -
  try dsimp only
  refine zD rfl (fun hlim=> ?_) (fun hlim=> ?_)
  ·
   refine ze<|za<|r_pv rfl rfl (zd rfl)<|zg<|zc<|zK<|zk ?_
   exact zB Try.results46 () trivial (zx rfl) (by rw [Ms.form_lim (by omega)]) (ho:=(.n:PickO _ _ _)) (.n:SelR _ _ _)
  ·
   refine zu<|zc<|ze<|ze<|za<|r_pv rfl rfl (zn Try.underlying25 rfl sz22 rfl rfl)<|r_u rfl rfl (zf 0 ty22 rfl rfl rfl)<|zea rfl rfl (.c rfl (.c rfl .n)) ce87 (zfd (p:=pv) (n:=nv) (cap:=cv) (l:=V) (hn:=by assumption)) (.c (j:=0) rfl .n)<|zg<|zc<|zAa rfl (fun hfar=> ?_) (fun hfar=> ?_)
   ·
    refine ze<|za<|r_pv rfl rfl (zd rfl)<|zg<|zc<|zK<|zk ?_
    exact zB Try.results46 () trivial (zx rfl) (by rw [Ms.form_far (by omega) hfar]) (ho:=(.n:PickO _ _ _)) (.n:SelR _ _ _)
   ·
    have hform:=Ms.form_go (V:=V) (F:=F) (by omega) hfar
    refine zu<|zc<|ze<|ze<|za<|r_pv rfl rfl (zn Try.underlying25 rfl sz23 rfl rfl)<|r_u rfl rfl (zf 0 ty23 rfl rfl rfl)<|r_pv rfl rfl (zJ Try.underlying23 rfl)<|r_pv rfl rfl (zb rfl)<|zg<|zc<|zq<|zha (X:=Nat) (fun x:Nat=>x≤nf∧Ms.formF V.length (F.drop x)=Ms.formF V.length F) (fun x=>[(23,.int .i64 ((x:Nat):Int)),(22,.int .i64 ((nf:Nat):Int)),(21,.slice pf nf cf),(1,.pointer (some ⟨b1,0,none⟩))]) (fun x=>[boxA b1 25 [.slice pv nv cv,.slice pf nf cf]]) (fun x=>[slF (rI3 .i64) pv cv V,slF (rI3 .i64) pf cf F]) (fun x:Nat=>nf - x) 0 (show 0≤nf∧Ms.formF V.length (F.drop 0)=Ms.formF V.length F from by exact ⟨by omega,rfl⟩) ((.e rfl (by first|rfl|(congr 1;omega)|simp_all) (.of rfl)):SubM _ _) (ho:=((.c (i:=0) rfl .n):PickO _ _ _)) ((.of [0,1] rfl):SelR _ _ _) ?_
    rintro i hI
    replace hI:i≤nf∧Ms.formF V.length (F.drop i)=Ms.formF V.length F:=hI
    try dsimp only
    obtain ⟨hi,hfm⟩:=hI
    refine ze<|za<|r_pv rfl rfl (zE rfl rfl)<|zg<|zc<|ze<|zD rfl (fun h3=> ?_) (fun h3=> ?_)
    ·
     refine zu<|zc<|ze<|zq<|ze<|za<|zI (x0:=(F.getD i (0,0,0))) 1 i rfl Try.underlying23 sz44 rfl rfl rfl (by first|rfl|assumption|(simp_all;done)|omega) rfl rfl (gD (d:=(0,0,0)) (by omega)) (fun b4 o5 hok6=> ?_)
     obtain ⟨hok6x,hok6y,hok6z⟩:=hok6
     replace hok6x:=zl.1 hok6x
     replace hok6y:=zl.1 hok6y
     replace hok6z:=zl.1 hok6z
     refine r_u rfl rfl (zG (j:=0) 0 ty44 rfl rfl rfl (.take (.take (.take .nil))))<|zV rfl rfl (zr zr44 rfl) (fun b7=> ?_)
     refine zv 0 rfl rfl rfl rfl rfl sz44 rfl (.take (.take (.take .nil))) .z<|zg<|zc<|ze<|ze<|za<|r_u rfl rfl (zh 0 ty44 rfl rfl (.take (.take (.take .nil))))<|r_pv rfl rfl (zb rfl)<|zg<|zc<|zq<|zbb<|zaa<|ze<|za<|r_pv rfl rfl (zE rfl rfl)<|zg<|zc<|ze<|zZ rfl rfl<|zu<|zc<|ze<|zq<|ze<|za<|r_pv rfl rfl (zia (i:=0) Try.underlying44 ty3 rfl rfl (by decide) rfl)<|r_pv rfl rfl (zd rfl)<|zg<|zc<|zLa (X:=Unit) (fun x=>True) (fun x=>[(39,.bool (decide (((F.getD i (0,0,0)).1<0)∨(((nv:Nat):Int)≤(F.getD i (0,0,0)).1)))),(6,.int .i64 ((F.getD i (0,0,0)).1)),(30,.int .i64 ((F.getD i (0,0,0)).1)),(29,.bool true),(28,.int .i64 0),(27,.agg #[.int .i64 ((F.getD i (0,0,0)).1),.int .i64 ((F.getD i (0,0,0)).2.1),.int .i64 ((F.getD i (0,0,0)).2.2)]),(4,.pointer (some ⟨b7,0,none⟩)),(23,.int .i64 ((i:Nat):Int)),(22,.int .i64 ((nf:Nat):Int)),(21,.slice pf nf cf),(1,.pointer (some ⟨b1,0,none⟩))]) (fun x=>[boxA b7 44 [.int .i64 ((F.getD i (0,0,0)).1),.int .i64 ((F.getD i (0,0,0)).2.1),.int .i64 ((F.getD i (0,0,0)).2.2)],boxA b1 25 [.slice pv nv cv,.slice pf nf cf]]) (fun x=>[atF b4 o5 [.int .i64 ((F.getD i (0,0,0)).1),.int .i64 ((F.getD i (0,0,0)).2.1),.int .i64 ((F.getD i (0,0,0)).2.2)],slF (rI3 .i64) pv cv V,slF (rI3 .i64) pf cf F]) ?_ ?_
     ·
      refine za<|r_pv rfl rfl (zb rfl)<|r_pv rfl rfl (zE rfl rfl)<|zpa rfl rfl (zb rfl) (fun h8=> ?_) (fun h8=> ?_)
      ·
       refine zi rfl rfl<|zi rfl rfl<|zi rfl rfl<|zi rfl rfl<|zi rfl rfl<|r_pv rfl rfl (zH rfl rfl)<|zg ?_
       exact zja () (show True from by first|trivial|omega|simp_all) ((.e rfl (congrArg Value.bool (by first|(simp_all;done)|(simp_all;omega)|(simp;omega)|omega)) (.of rfl)):SubM _ _) (ho:=((.of [0,0] rfl):PickO _ _ _)) ((.of [0,1,2] rfl):SelR _ _ _)
      ·
       refine r_pv rfl rfl (zb rfl)<|r_pv rfl rfl (zn Try.underlying25 rfl sz22 rfl rfl)<|r_u rfl rfl (zf 1 ty22 rfl rfl rfl)<|r_pv rfl rfl (zJ Try.underlying22 rfl)<|r_pv rfl rfl (zcb rfl rfl)<|r_pv rfl rfl (zH rfl rfl)<|zg ?_
       exact zja () (show True from by first|trivial|omega|simp_all) ((.e rfl (congrArg Value.bool (by first|(simp_all;done)|(simp_all;omega)|(simp;omega)|omega)) (.of rfl)):SubM _ _) (ho:=((.of [0,0] rfl):PickO _ _ _)) ((.of [0,1,2] rfl):SelR _ _ _)
     ·
      rintro ⟨⟩ -
      try dsimp only
      refine zD rfl (fun hix=> ?_) (fun hix=> ?_)
      ·
       refine ze<|za<|r_pv rfl rfl (zd rfl)<|zg<|zc<|zK<|zo<|zk<|zk<|zo<|zk<|zo<|zk<|zk<|zo<|zk ?_
       have hs:=Ms.formF_step (n:=V.length) (F:=F) (i:=i) (by omega)
       exact zB Try.results46 () trivial (zx rfl) (by rw [hform,←hfm,hs,if_pos (by simp only [Ms.badIx,decide_eq_true_eq];omega)]) (ho:=(.n:PickO _ _ _)) (.n:SelR _ _ _)
      ·
       refine zu<|zA<|zc<|za<|r_pv rfl rfl (zC (z:=1) rfl rfl (w64 (by decide)))<|r_pv rfl rfl (zb rfl)<|zg<|zna<|zaa<|ze<|za<|r_pv rfl rfl (zE rfl rfl)<|zg<|zc<|ze<|zZ rfl rfl<|zu<|zc<|ze<|zq<|ze<|za<|r_pv rfl rfl (zia (i:=1) Try.underlying44 ty3 rfl rfl (by decide) rfl)<|r_pv rfl rfl (zd rfl)<|zg<|zc<|zLa (X:=Unit) (fun x=>True) (fun x=>[(39,.bool (decide (((F.getD i (0,0,0)).2.1<0)∨(((nv:Nat):Int)≤(F.getD i (0,0,0)).2.1)))),(6,.int .i64 ((F.getD i (0,0,0)).2.1)),(30,.int .i64 ((F.getD i (0,0,0)).2.1)),(29,.bool true),(28,.int .i64 1),(40,.int .i64 1),(27,.agg #[.int .i64 ((F.getD i (0,0,0)).1),.int .i64 ((F.getD i (0,0,0)).2.1),.int .i64 ((F.getD i (0,0,0)).2.2)]),(4,.pointer (some ⟨b7,0,none⟩)),(23,.int .i64 ((i:Nat):Int)),(22,.int .i64 ((nf:Nat):Int)),(21,.slice pf nf cf),(1,.pointer (some ⟨b1,0,none⟩))]) (fun x=>[boxA b7 44 [.int .i64 ((F.getD i (0,0,0)).1),.int .i64 ((F.getD i (0,0,0)).2.1),.int .i64 ((F.getD i (0,0,0)).2.2)],boxA b1 25 [.slice pv nv cv,.slice pf nf cf]]) (fun x=>[atF b4 o5 [.int .i64 ((F.getD i (0,0,0)).1),.int .i64 ((F.getD i (0,0,0)).2.1),.int .i64 ((F.getD i (0,0,0)).2.2)],slF (rI3 .i64) pv cv V,slF (rI3 .i64) pf cf F]) ?_ ?_
       ·
        refine za<|r_pv rfl rfl (zb rfl)<|r_pv rfl rfl (zE rfl rfl)<|zpa rfl rfl (zb rfl) (fun h9=> ?_) (fun h9=> ?_)
        ·
         refine zi rfl rfl<|zi rfl rfl<|zi rfl rfl<|zi rfl rfl<|zi rfl rfl<|r_pv rfl rfl (zH rfl rfl)<|zg ?_
         exact zja () (show True from by first|trivial|omega|simp_all) ((.e rfl (congrArg Value.bool (by first|(simp_all;done)|(simp_all;omega)|(simp;omega)|omega)) (.of rfl)):SubM _ _) (ho:=((.of [0,0] rfl):PickO _ _ _)) ((.of [0,1,2] rfl):SelR _ _ _)
        ·
         refine r_pv rfl rfl (zb rfl)<|r_pv rfl rfl (zn Try.underlying25 rfl sz22 rfl rfl)<|r_u rfl rfl (zf 1 ty22 rfl rfl rfl)<|r_pv rfl rfl (zJ Try.underlying22 rfl)<|r_pv rfl rfl (zcb rfl rfl)<|r_pv rfl rfl (zH rfl rfl)<|zg ?_
         exact zja () (show True from by first|trivial|omega|simp_all) ((.e rfl (congrArg Value.bool (by first|(simp_all;done)|(simp_all;omega)|(simp;omega)|omega)) (.of rfl)):SubM _ _) (ho:=((.of [0,0] rfl):PickO _ _ _)) ((.of [0,1,2] rfl):SelR _ _ _)
       ·
        rintro ⟨⟩ -
        try dsimp only
        refine zD rfl (fun hix=> ?_) (fun hix=> ?_)
        ·
         refine ze<|za<|r_pv rfl rfl (zd rfl)<|zg<|zc<|zK<|zo<|zk<|zk<|zo<|zk<|zo<|zk<|zk<|zo<|zk ?_
         have hs:=Ms.formF_step (n:=V.length) (F:=F) (i:=i) (by omega)
         exact zB Try.results46 () trivial (zx rfl) (by rw [hform,←hfm,hs,if_pos (by simp only [Ms.badIx,decide_eq_true_eq];omega)]) (ho:=(.n:PickO _ _ _)) (.n:SelR _ _ _)
        ·
         refine zu<|zA<|zc<|za<|r_pv rfl rfl (zC (z:=2) rfl rfl (w64 (by decide)))<|r_pv rfl rfl (zb rfl)<|zg<|zna<|zaa<|ze<|za<|r_pv rfl rfl (zE rfl rfl)<|zg<|zc<|ze<|zZ rfl rfl<|zu<|zc<|ze<|zq<|ze<|za<|r_pv rfl rfl (zia (i:=2) Try.underlying44 ty3 rfl rfl (by decide) rfl)<|r_pv rfl rfl (zd rfl)<|zg<|zc<|zLa (X:=Unit) (fun x=>True) (fun x=>[(39,.bool (decide (((F.getD i (0,0,0)).2.2<0)∨(((nv:Nat):Int)≤(F.getD i (0,0,0)).2.2)))),(6,.int .i64 ((F.getD i (0,0,0)).2.2)),(30,.int .i64 ((F.getD i (0,0,0)).2.2)),(29,.bool true),(28,.int .i64 2),(40,.int .i64 2),(27,.agg #[.int .i64 ((F.getD i (0,0,0)).1),.int .i64 ((F.getD i (0,0,0)).2.1),.int .i64 ((F.getD i (0,0,0)).2.2)]),(4,.pointer (some ⟨b7,0,none⟩)),(23,.int .i64 ((i:Nat):Int)),(22,.int .i64 ((nf:Nat):Int)),(21,.slice pf nf cf),(1,.pointer (some ⟨b1,0,none⟩))]) (fun x=>[boxA b7 44 [.int .i64 ((F.getD i (0,0,0)).1),.int .i64 ((F.getD i (0,0,0)).2.1),.int .i64 ((F.getD i (0,0,0)).2.2)],boxA b1 25 [.slice pv nv cv,.slice pf nf cf]]) (fun x=>[atF b4 o5 [.int .i64 ((F.getD i (0,0,0)).1),.int .i64 ((F.getD i (0,0,0)).2.1),.int .i64 ((F.getD i (0,0,0)).2.2)],slF (rI3 .i64) pv cv V,slF (rI3 .i64) pf cf F]) ?_ ?_
         ·
          refine za<|r_pv rfl rfl (zb rfl)<|r_pv rfl rfl (zE rfl rfl)<|zpa rfl rfl (zb rfl) (fun h10=> ?_) (fun h10=> ?_)
          ·
           refine zi rfl rfl<|zi rfl rfl<|zi rfl rfl<|zi rfl rfl<|zi rfl rfl<|r_pv rfl rfl (zH rfl rfl)<|zg ?_
           exact zja () (show True from by first|trivial|omega|simp_all) ((.e rfl (congrArg Value.bool (by first|(simp_all;done)|(simp_all;omega)|(simp;omega)|omega)) (.of rfl)):SubM _ _) (ho:=((.of [0,0] rfl):PickO _ _ _)) ((.of [0,1,2] rfl):SelR _ _ _)
          ·
           refine r_pv rfl rfl (zb rfl)<|r_pv rfl rfl (zn Try.underlying25 rfl sz22 rfl rfl)<|r_u rfl rfl (zf 1 ty22 rfl rfl rfl)<|r_pv rfl rfl (zJ Try.underlying22 rfl)<|r_pv rfl rfl (zcb rfl rfl)<|r_pv rfl rfl (zH rfl rfl)<|zg ?_
           exact zja () (show True from by first|trivial|omega|simp_all) ((.e rfl (congrArg Value.bool (by first|(simp_all;done)|(simp_all;omega)|(simp;omega)|omega)) (.of rfl)):SubM _ _) (ho:=((.of [0,0] rfl):PickO _ _ _)) ((.of [0,1,2] rfl):SelR _ _ _)
         ·
          rintro ⟨⟩ -
          try dsimp only
          refine zD rfl (fun hix=> ?_) (fun hix=> ?_)
          ·
           refine ze<|za<|r_pv rfl rfl (zd rfl)<|zg<|zc<|zK<|zo<|zk<|zk<|zo<|zk<|zo<|zk<|zk<|zo<|zk ?_
           have hs:=Ms.formF_step (n:=V.length) (F:=F) (i:=i) (by omega)
           exact zB Try.results46 () trivial (zx rfl) (by rw [hform,←hfm,hs,if_pos (by simp only [Ms.badIx,decide_eq_true_eq];omega)]) (ho:=(.n:PickO _ _ _)) (.n:SelR _ _ _)
          ·
           refine zu<|zA<|zc<|za<|r_pv rfl rfl (zC (z:=3) rfl rfl (w64 (by decide)))<|r_pv rfl rfl (zb rfl)<|zg<|zna<|zaa<|ze<|za<|r_pv rfl rfl (zE rfl rfl)<|zg<|zc<|ze<|zya rfl rfl<|zX<|zj<|zj<|zp<|zc<|zLa (X:=Unit) (fun x=>True) (fun x=>[(59,.bool (decide ((((F.getD i (0,0,0)).1=(F.getD i (0,0,0)).2.1)∨((F.getD i (0,0,0)).2.1=(F.getD i (0,0,0)).2.2))∨((F.getD i (0,0,0)).2.2=(F.getD i (0,0,0)).1)))),(23,.int .i64 ((i:Nat):Int)),(22,.int .i64 ((nf:Nat):Int)),(21,.slice pf nf cf),(1,.pointer (some ⟨b1,0,none⟩))]) (fun x=>[boxA b7 44 [.int .i64 ((F.getD i (0,0,0)).1),.int .i64 ((F.getD i (0,0,0)).2.1),.int .i64 ((F.getD i (0,0,0)).2.2)],boxA b1 25 [.slice pv nv cv,.slice pf nf cf]]) (fun x=>[atF b4 o5 [.int .i64 ((F.getD i (0,0,0)).1),.int .i64 ((F.getD i (0,0,0)).2.1),.int .i64 ((F.getD i (0,0,0)).2.2)],slF (rI3 .i64) pv cv V,slF (rI3 .i64) pf cf F]) ?_ ?_
           ·
            refine za<|r_pv rfl rfl (zm (i:=0) Try.underlying44 sz3 rfl rfl (by decide) rfl)<|r_u rfl rfl (zf 0 ty3 rfl rfl rfl)<|r_pv rfl rfl (zm (i:=1) Try.underlying44 sz3 rfl rfl (by decide) rfl)<|r_u rfl rfl (zf 0 ty3 rfl rfl rfl)<|r_pv rfl rfl (zFa rfl rfl)<|zpa rfl rfl (zb rfl) (fun h11=> ?_) (fun h11=> ?_)
            ·
             refine zi rfl rfl<|zi rfl rfl<|zi rfl rfl<|zi rfl rfl<|zi rfl rfl<|r_pv rfl rfl (zH rfl rfl)<|r_pv rfl rfl (zb rfl)<|zi rfl rfl<|zi rfl rfl<|zi rfl rfl<|zi rfl rfl<|zi rfl rfl<|r_pv rfl rfl (zH rfl rfl)<|zg ?_
             exact zja () (show True from by first|trivial|omega|simp_all) ((.e rfl (congrArg Value.bool (by first|(simp_all;done)|(simp_all;omega)|(simp;omega)|omega)) (.of rfl)):SubM _ _) (ho:=((.of [0,0] rfl):PickO _ _ _)) ((.of [0,1,2] rfl):SelR _ _ _)
            ·
             refine r_pv rfl rfl (zm (i:=1) Try.underlying44 sz3 rfl rfl (by decide) rfl)<|r_u rfl rfl (zf 0 ty3 rfl rfl rfl)<|r_pv rfl rfl (zm (i:=2) Try.underlying44 sz3 rfl rfl (by decide) rfl)<|r_u rfl rfl (zf 0 ty3 rfl rfl rfl)<|r_pv rfl rfl (zFa rfl rfl)<|r_pv rfl rfl (zH rfl rfl)<|zpa rfl rfl (zb rfl) (fun h12=> ?_) (fun h12=> ?_)
             ·
              refine zi rfl rfl<|zi rfl rfl<|zi rfl rfl<|zi rfl rfl<|zi rfl rfl<|r_pv rfl rfl (zH rfl rfl)<|zg ?_
              exact zja () (show True from by first|trivial|omega|simp_all) ((.e rfl (congrArg Value.bool (by first|(simp_all;done)|(simp_all;omega)|(simp;omega)|omega)) (.of rfl)):SubM _ _) (ho:=((.of [0,0] rfl):PickO _ _ _)) ((.of [0,1,2] rfl):SelR _ _ _)
             ·
              refine r_pv rfl rfl (zm (i:=2) Try.underlying44 sz3 rfl rfl (by decide) rfl)<|r_u rfl rfl (zf 0 ty3 rfl rfl rfl)<|r_pv rfl rfl (zm (i:=0) Try.underlying44 sz3 rfl rfl (by decide) rfl)<|r_u rfl rfl (zf 0 ty3 rfl rfl rfl)<|r_pv rfl rfl (zFa rfl rfl)<|r_pv rfl rfl (zH rfl rfl)<|zg ?_
              exact zja () (show True from by first|trivial|omega|simp_all) ((.e rfl (congrArg Value.bool (by first|(simp_all;done)|(simp_all;omega)|(simp;omega)|omega)) (.of rfl)):SubM _ _) (ho:=((.of [0,0] rfl):PickO _ _ _)) ((.of [0,1,2] rfl):SelR _ _ _)
           ·
            rintro ⟨⟩ -
            try dsimp only
            refine zD rfl (fun hdg=> ?_) (fun hdg=> ?_)
            ·
             refine ze<|za<|r_pv rfl rfl (zd rfl)<|zg<|zc<|zK<|zo<|zk<|zk<|zo<|zk ?_
             have hs:=Ms.formF_step (n:=V.length) (F:=F) (i:=i) (by omega)
             exact zB Try.results46 () trivial (zx rfl) (by rw [hform,←hfm,hs,if_neg (by simp only [Ms.badIx,decide_eq_true_eq];omega),if_pos (by simp only [Ms.deg,decide_eq_true_eq];omega)]) (ho:=(.n:PickO _ _ _)) (.n:SelR _ _ _)
            ·
             refine zu<|zA<|zc<|za<|r_pv rfl rfl (zC (z:=(((i+1):Nat):Int)) rfl rfl (w64 (by omega)))<|r_pv rfl rfl (zb rfl)<|zg<|zba (i+1) (show (i+1)≤nf∧Ms.formF V.length (F.drop (i+1))=Ms.formF V.length F from by have hs:=Ms.formF_step (n:=V.length) (F:=F) (i:=i) (by omega);exact ⟨by omega,by rw [← hfm,hs,if_neg (by simp only [Ms.badIx,decide_eq_true_eq];omega),if_neg (by simp only [Ms.deg,decide_eq_true_eq];omega)]⟩) (by show nf - (i+1)<nf - i;omega) ((.of rfl):SubM _ _) (ho:=((.c (i:=1) rfl .n):PickO _ _ _)) ((.of [1,2] rfl):SelR _ _ _)
    ·
     refine zX<|zj<|zj<|zp<|zc<|ze<|za<|r_pv rfl rfl (zd rfl)<|zg<|zc<|zK ?_
     exact zB Try.results46 () trivial (zx rfl) (by rw [hform,←hfm,List.drop_eq_nil_of_le (by omega)];rfl) (ho:=(.n:PickO _ _ _)) (.n:SelR _ _ _)
theorem zId {pv:Option Addr} {nv:Nat} {cv:Nat} {V:List (Int×Int×Int)} {pf:Option Addr} {nf:Nat} {cf:Nat} {F:List (Int×Int×Int)} (hnv:V.length=nv) (hnf:F.length=nf):Con Try.prog 20 [.agg #[.slice pv nv cv,.slice pf nf cf]] [] [slF (rI3 .i64) pv cv V,slF (rI3 .i64) pf cf F] (Y:=Unit) (fun y=>True) (fun y=> .int .i64 (Ms.form V F)) (fun y=>[]) (fun y=>[]):=by
 refine zy Try.func20 rfl rfl rfl (fun c=> ?_)
 show RunC _ _ _ _ _ [(0,.agg #[.slice pv nv cv,.slice pf nf cf])] [] [slF (rI3 .i64) pv cv V,slF (rI3 .i64) pf cf F]
 refine zda 0 rfl (fun hL0=> ?_)
 refine zda 1 rfl (fun hL1=> ?_)
 refine ze<|za<|zV rfl rfl (zla rfl rfl) (fun b1=> ?_)
 refine r_pv rfl rfl (zd rfl)<|zg<|zc<|ze<|zLa (X:=Unit) (fun x=>True) (fun x=>[(18,.bool (decide ((512<((nv:Nat):Int))∨(1024<((nf:Nat):Int))))),(2,.int .i64 0),(1,.pointer (some ⟨b1,0,none⟩))]) (fun x=>[boxA b1 25 [.slice pv nv cv,.slice pf nf cf]]) (fun x=>[slF (rI3 .i64) pv cv V,slF (rI3 .i64) pf cf F]) ?_ ?_
 ·
  refine za<|r_pv rfl rfl (zn Try.underlying25 rfl sz22 rfl rfl)<|r_u rfl rfl (zf 0 ty22 rfl rfl rfl)<|r_pv rfl rfl (zJ Try.underlying22 rfl)<|r_pv rfl rfl (zOa rfl rfl)<|zpa rfl rfl (zb rfl) (fun h2=> ?_) (fun h2=> ?_)
  ·
   refine zi rfl rfl<|zi rfl rfl<|zi rfl rfl<|zi rfl rfl<|r_pv rfl rfl (zH rfl rfl)<|zg ?_
   exact zja () (show True from by first|trivial|omega|simp_all) ((.e rfl (congrArg Value.bool (by first|(simp_all;done)|(simp_all;omega)|(simp;omega)|omega)) (.c rfl (.c rfl .n))):SubM _ _) (ho:=((.c (i:=0) rfl .n):PickO _ _ _)) ((.of [0,1] rfl):SelR _ _ _)
  ·
   refine r_pv rfl rfl (zn Try.underlying25 rfl sz23 rfl rfl)<|r_u rfl rfl (zf 0 ty23 rfl rfl rfl)<|r_pv rfl rfl (zJ Try.underlying23 rfl)<|r_pv rfl rfl (zOa rfl rfl)<|r_pv rfl rfl (zH rfl rfl)<|zg ?_
   exact zja () (show True from by first|trivial|omega|simp_all) ((.e rfl (congrArg Value.bool (by first|(simp_all;done)|(simp_all;omega)|(simp;omega)|omega)) (.c rfl (.c rfl .n))):SubM _ _) (ho:=((.c (i:=0) rfl .n):PickO _ _ _)) ((.of [0,1] rfl):SelR _ _ _)
 ·
  rintro ⟨⟩ -
  try dsimp only
  refine zD rfl (fun hlim=> ?_) (fun hlim=> ?_)
  ·
   refine ze<|za<|r_pv rfl rfl (zd rfl)<|zg<|zc<|zK<|zk ?_
   exact zB Try.results20 () trivial (zx rfl) (by rw [Ms.form_lim (by omega)]) (ho:=(.n:PickO _ _ _)) (.n:SelR _ _ _)
  ·
   refine zu<|zc<|ze<|ze<|za<|r_pv rfl rfl (zn Try.underlying25 rfl sz22 rfl rfl)<|r_u rfl rfl (zf 0 ty22 rfl rfl rfl)<|r_pv rfl rfl (zJ Try.underlying22 rfl)<|r_pv rfl rfl (zb rfl)<|zg<|zc<|zq<|zha (X:=Nat) (fun x:Nat=>x≤nv∧∀j,j<x→Ms.far (V.getD j (0,0,0))=false) (fun x=>[(22,.int .i64 ((x:Nat):Int)),(21,.int .i64 ((nv:Nat):Int)),(20,.slice pv nv cv),(1,.pointer (some ⟨b1,0,none⟩))]) (fun x=>[boxA b1 25 [.slice pv nv cv,.slice pf nf cf]]) (fun x=>[slF (rI3 .i64) pv cv V,slF (rI3 .i64) pf cf F]) (fun x:Nat=>nv - x) 0 (show 0≤nv∧∀j,j<0→Ms.far (V.getD j (0,0,0))=false from by exact ⟨by omega,fun j h=>by omega⟩) ((.e rfl (by first|rfl|(congr 1;omega)|simp_all) (.of rfl)):SubM _ _) (ho:=((.c (i:=0) rfl .n):PickO _ _ _)) ((.of [0,1] rfl):SelR _ _ _) ?_
   rintro k hI
   replace hI:k≤nv∧∀j,j<k→Ms.far (V.getD j (0,0,0))=false:=hI
   try dsimp only
   obtain ⟨hk,hall⟩:=hI
   refine ze<|za<|r_pv rfl rfl (zE rfl rfl)<|zg<|zc<|ze<|zD rfl (fun h3=> ?_) (fun h3=> ?_)
   ·
    refine zu<|zc<|ze<|zq<|ze<|za<|zI (x0:=(V.getD k (0,0,0))) 0 k rfl Try.underlying22 sz42 rfl rfl rfl (by first|rfl|assumption|(simp_all;done)|omega) rfl rfl (gD (d:=(0,0,0)) (by omega)) (fun b4 o5 hok6=> ?_)
    obtain ⟨hok6x,hok6y,hok6z⟩:=hok6
    replace hok6x:=zl.1 hok6x
    replace hok6y:=zl.1 hok6y
    replace hok6z:=zl.1 hok6z
    refine r_u rfl rfl (zG (j:=0) 0 ty42 rfl rfl rfl (.take (.take (.take .nil))))<|zV rfl rfl (zr zr42 rfl) (fun b7=> ?_)
    refine zv 0 rfl rfl rfl rfl rfl sz42 rfl (.take (.take (.take .nil))) .z<|zg<|zc<|ze<|za<|r_u rfl rfl (zh 0 ty42 rfl rfl (.take (.take (.take .nil))))<|zea rfl rfl (.c rfl .n) ce41 (zde (ex:=(V.getD k (0,0,0)).1) (ey:=(V.getD k (0,0,0)).2.1) (ez:=(V.getD k (0,0,0)).2.2) (hx:=by first|rfl|assumption|omega|(simp;done)|(simp;omega)|(simp_all;done)) (hy:=by first|rfl|assumption|omega|(simp;done)|(simp;omega)|(simp_all;done)) (hz:=by first|rfl|assumption|omega|(simp;done)|(simp;omega)|(simp_all;done))) (.n)<|zg<|zc<|zAa rfl (fun hfar=> ?_) (fun hfar=> ?_)
    ·
     refine ze<|za<|r_pv rfl rfl (zd rfl)<|zg<|zc<|zK<|zo<|zk<|zk<|zo<|zk ?_
     exact zB Try.results20 () trivial (zx rfl) (by rw [Ms.form_far (by omega) (Ms.any_true (0,0,0) (i:=k) (by omega) hfar)]) (ho:=(.n:PickO _ _ _)) (.n:SelR _ _ _)
    ·
     refine zu<|zA<|zc<|za<|r_pv rfl rfl (zC (z:=(((k+1):Nat):Int)) rfl rfl (w64 (by omega)))<|r_pv rfl rfl (zb rfl)<|zg<|zba (k+1) (show (k+1)≤nv∧∀j,j<(k+1)→Ms.far (V.getD j (0,0,0))=false from by exact ⟨by omega,Ms.all_lt_succ hall hfar⟩) (by show nv - (k+1)<nv - k;omega) ((.of rfl):SubM _ _) (ho:=((.c (i:=1) rfl .n):PickO _ _ _)) ((.of [1,2] rfl):SelR _ _ _)
   ·
    have hform:=Ms.form_go (V:=V) (F:=F) (by omega) (Ms.any_false (0,0,0) (fun j hj=>hall j (by omega)))
    refine zX<|zj<|zj<|zp<|zc<|ze<|ze<|za<|r_pv rfl rfl (zn Try.underlying25 rfl sz23 rfl rfl)<|r_u rfl rfl (zf 0 ty23 rfl rfl rfl)<|r_pv rfl rfl (zJ Try.underlying23 rfl)<|r_pv rfl rfl (zb rfl)<|zg<|zc<|zq<|zha (X:=Nat) (fun x:Nat=>x≤nf∧Ms.formF V.length (F.drop x)=Ms.formF V.length F) (fun x=>[(32,.int .i64 ((x:Nat):Int)),(31,.int .i64 ((nf:Nat):Int)),(30,.slice pf nf cf),(1,.pointer (some ⟨b1,0,none⟩))]) (fun x=>[boxA b1 25 [.slice pv nv cv,.slice pf nf cf]]) (fun x=>[slF (rI3 .i64) pv cv V,slF (rI3 .i64) pf cf F]) (fun x:Nat=>nf - x) 0 (show 0≤nf∧Ms.formF V.length (F.drop 0)=Ms.formF V.length F from by exact ⟨by omega,rfl⟩) ((.e rfl (by first|rfl|(congr 1;omega)|simp_all) (.of rfl)):SubM _ _) (ho:=((.c (i:=0) rfl .n):PickO _ _ _)) ((.of [0,1] rfl):SelR _ _ _) ?_
    rintro i hI
    replace hI:i≤nf∧Ms.formF V.length (F.drop i)=Ms.formF V.length F:=hI
    try dsimp only
    obtain ⟨hi,hfm⟩:=hI
    refine ze<|za<|r_pv rfl rfl (zE rfl rfl)<|zg<|zc<|ze<|zD rfl (fun h8=> ?_) (fun h8=> ?_)
    ·
     refine zu<|zc<|ze<|zq<|ze<|za<|zI (x0:=(F.getD i (0,0,0))) 1 i rfl Try.underlying23 sz44 rfl rfl rfl (by first|rfl|assumption|(simp_all;done)|omega) rfl rfl (gD (d:=(0,0,0)) (by omega)) (fun b9 o10 hok11=> ?_)
     obtain ⟨hok11x,hok11y,hok11z⟩:=hok11
     replace hok11x:=zl.1 hok11x
     replace hok11y:=zl.1 hok11y
     replace hok11z:=zl.1 hok11z
     refine r_u rfl rfl (zG (j:=0) 0 ty44 rfl rfl rfl (.take (.take (.take .nil))))<|zV rfl rfl (zr zr44 rfl) (fun b12=> ?_)
     refine zv 0 rfl rfl rfl rfl rfl sz44 rfl (.take (.take (.take .nil))) .z<|zg<|zc<|ze<|ze<|za<|r_u rfl rfl (zh 0 ty44 rfl rfl (.take (.take (.take .nil))))<|r_pv rfl rfl (zb rfl)<|zg<|zc<|zq<|zbb<|zaa<|ze<|za<|r_pv rfl rfl (zE rfl rfl)<|zg<|zc<|ze<|zZ rfl rfl<|zu<|zc<|ze<|zq<|ze<|za<|r_pv rfl rfl (zia (i:=0) Try.underlying44 ty3 rfl rfl (by decide) rfl)<|r_pv rfl rfl (zd rfl)<|zg<|zc<|zLa (X:=Unit) (fun x=>True) (fun x=>[(48,.bool (decide (((F.getD i (0,0,0)).1<0)∨(((nv:Nat):Int)≤(F.getD i (0,0,0)).1)))),(8,.int .i64 ((F.getD i (0,0,0)).1)),(39,.int .i64 ((F.getD i (0,0,0)).1)),(38,.bool true),(37,.int .i64 0),(36,.agg #[.int .i64 ((F.getD i (0,0,0)).1),.int .i64 ((F.getD i (0,0,0)).2.1),.int .i64 ((F.getD i (0,0,0)).2.2)]),(6,.pointer (some ⟨b12,0,none⟩)),(32,.int .i64 ((i:Nat):Int)),(31,.int .i64 ((nf:Nat):Int)),(30,.slice pf nf cf),(1,.pointer (some ⟨b1,0,none⟩))]) (fun x=>[boxA b12 44 [.int .i64 ((F.getD i (0,0,0)).1),.int .i64 ((F.getD i (0,0,0)).2.1),.int .i64 ((F.getD i (0,0,0)).2.2)],boxA b1 25 [.slice pv nv cv,.slice pf nf cf]]) (fun x=>[atF b9 o10 [.int .i64 ((F.getD i (0,0,0)).1),.int .i64 ((F.getD i (0,0,0)).2.1),.int .i64 ((F.getD i (0,0,0)).2.2)],slF (rI3 .i64) pv cv V,slF (rI3 .i64) pf cf F]) ?_ ?_
     ·
      refine za<|r_pv rfl rfl (zb rfl)<|r_pv rfl rfl (zE rfl rfl)<|zpa rfl rfl (zb rfl) (fun h13=> ?_) (fun h13=> ?_)
      ·
       refine zi rfl rfl<|zi rfl rfl<|zi rfl rfl<|zi rfl rfl<|zi rfl rfl<|r_pv rfl rfl (zH rfl rfl)<|zg ?_
       exact zja () (show True from by first|trivial|omega|simp_all) ((.e rfl (congrArg Value.bool (by first|(simp_all;done)|(simp_all;omega)|(simp;omega)|omega)) (.of rfl)):SubM _ _) (ho:=((.of [0,0] rfl):PickO _ _ _)) ((.of [0,1,2] rfl):SelR _ _ _)
      ·
       refine r_pv rfl rfl (zb rfl)<|r_pv rfl rfl (zn Try.underlying25 rfl sz22 rfl rfl)<|r_u rfl rfl (zf 1 ty22 rfl rfl rfl)<|r_pv rfl rfl (zJ Try.underlying22 rfl)<|r_pv rfl rfl (zcb rfl rfl)<|r_pv rfl rfl (zH rfl rfl)<|zg ?_
       exact zja () (show True from by first|trivial|omega|simp_all) ((.e rfl (congrArg Value.bool (by first|(simp_all;done)|(simp_all;omega)|(simp;omega)|omega)) (.of rfl)):SubM _ _) (ho:=((.of [0,0] rfl):PickO _ _ _)) ((.of [0,1,2] rfl):SelR _ _ _)
     ·
      rintro ⟨⟩ -
      try dsimp only
      refine zD rfl (fun hix=> ?_) (fun hix=> ?_)
      ·
       refine ze<|za<|r_pv rfl rfl (zd rfl)<|zg<|zc<|zK<|zo<|zk<|zk<|zo<|zk<|zo<|zk<|zk<|zo<|zk ?_
       have hs:=Ms.formF_step (n:=V.length) (F:=F) (i:=i) (by omega)
       exact zB Try.results20 () trivial (zx rfl) (by rw [hform,←hfm,hs,if_pos (by simp only [Ms.badIx,decide_eq_true_eq];omega)]) (ho:=(.n:PickO _ _ _)) (.n:SelR _ _ _)
      ·
       refine zu<|zA<|zc<|za<|r_pv rfl rfl (zC (z:=1) rfl rfl (w64 (by decide)))<|r_pv rfl rfl (zb rfl)<|zg<|zna<|zaa<|ze<|za<|r_pv rfl rfl (zE rfl rfl)<|zg<|zc<|ze<|zZ rfl rfl<|zu<|zc<|ze<|zq<|ze<|za<|r_pv rfl rfl (zia (i:=1) Try.underlying44 ty3 rfl rfl (by decide) rfl)<|r_pv rfl rfl (zd rfl)<|zg<|zc<|zLa (X:=Unit) (fun x=>True) (fun x=>[(48,.bool (decide (((F.getD i (0,0,0)).2.1<0)∨(((nv:Nat):Int)≤(F.getD i (0,0,0)).2.1)))),(8,.int .i64 ((F.getD i (0,0,0)).2.1)),(39,.int .i64 ((F.getD i (0,0,0)).2.1)),(38,.bool true),(37,.int .i64 1),(49,.int .i64 1),(36,.agg #[.int .i64 ((F.getD i (0,0,0)).1),.int .i64 ((F.getD i (0,0,0)).2.1),.int .i64 ((F.getD i (0,0,0)).2.2)]),(6,.pointer (some ⟨b12,0,none⟩)),(32,.int .i64 ((i:Nat):Int)),(31,.int .i64 ((nf:Nat):Int)),(30,.slice pf nf cf),(1,.pointer (some ⟨b1,0,none⟩))]) (fun x=>[boxA b12 44 [.int .i64 ((F.getD i (0,0,0)).1),.int .i64 ((F.getD i (0,0,0)).2.1),.int .i64 ((F.getD i (0,0,0)).2.2)],boxA b1 25 [.slice pv nv cv,.slice pf nf cf]]) (fun x=>[atF b9 o10 [.int .i64 ((F.getD i (0,0,0)).1),.int .i64 ((F.getD i (0,0,0)).2.1),.int .i64 ((F.getD i (0,0,0)).2.2)],slF (rI3 .i64) pv cv V,slF (rI3 .i64) pf cf F]) ?_ ?_
       ·
        refine za<|r_pv rfl rfl (zb rfl)<|r_pv rfl rfl (zE rfl rfl)<|zpa rfl rfl (zb rfl) (fun h14=> ?_) (fun h14=> ?_)
        ·
         refine zi rfl rfl<|zi rfl rfl<|zi rfl rfl<|zi rfl rfl<|zi rfl rfl<|r_pv rfl rfl (zH rfl rfl)<|zg ?_
         exact zja () (show True from by first|trivial|omega|simp_all) ((.e rfl (congrArg Value.bool (by first|(simp_all;done)|(simp_all;omega)|(simp;omega)|omega)) (.of rfl)):SubM _ _) (ho:=((.of [0,0] rfl):PickO _ _ _)) ((.of [0,1,2] rfl):SelR _ _ _)
        ·
         refine r_pv rfl rfl (zb rfl)<|r_pv rfl rfl (zn Try.underlying25 rfl sz22 rfl rfl)<|r_u rfl rfl (zf 1 ty22 rfl rfl rfl)<|r_pv rfl rfl (zJ Try.underlying22 rfl)<|r_pv rfl rfl (zcb rfl rfl)<|r_pv rfl rfl (zH rfl rfl)<|zg ?_
         exact zja () (show True from by first|trivial|omega|simp_all) ((.e rfl (congrArg Value.bool (by first|(simp_all;done)|(simp_all;omega)|(simp;omega)|omega)) (.of rfl)):SubM _ _) (ho:=((.of [0,0] rfl):PickO _ _ _)) ((.of [0,1,2] rfl):SelR _ _ _)
       ·
        rintro ⟨⟩ -
        try dsimp only
        refine zD rfl (fun hix=> ?_) (fun hix=> ?_)
        ·
         refine ze<|za<|r_pv rfl rfl (zd rfl)<|zg<|zc<|zK<|zo<|zk<|zk<|zo<|zk<|zo<|zk<|zk<|zo<|zk ?_
         have hs:=Ms.formF_step (n:=V.length) (F:=F) (i:=i) (by omega)
         exact zB Try.results20 () trivial (zx rfl) (by rw [hform,←hfm,hs,if_pos (by simp only [Ms.badIx,decide_eq_true_eq];omega)]) (ho:=(.n:PickO _ _ _)) (.n:SelR _ _ _)
        ·
         refine zu<|zA<|zc<|za<|r_pv rfl rfl (zC (z:=2) rfl rfl (w64 (by decide)))<|r_pv rfl rfl (zb rfl)<|zg<|zna<|zaa<|ze<|za<|r_pv rfl rfl (zE rfl rfl)<|zg<|zc<|ze<|zZ rfl rfl<|zu<|zc<|ze<|zq<|ze<|za<|r_pv rfl rfl (zia (i:=2) Try.underlying44 ty3 rfl rfl (by decide) rfl)<|r_pv rfl rfl (zd rfl)<|zg<|zc<|zLa (X:=Unit) (fun x=>True) (fun x=>[(48,.bool (decide (((F.getD i (0,0,0)).2.2<0)∨(((nv:Nat):Int)≤(F.getD i (0,0,0)).2.2)))),(8,.int .i64 ((F.getD i (0,0,0)).2.2)),(39,.int .i64 ((F.getD i (0,0,0)).2.2)),(38,.bool true),(37,.int .i64 2),(49,.int .i64 2),(36,.agg #[.int .i64 ((F.getD i (0,0,0)).1),.int .i64 ((F.getD i (0,0,0)).2.1),.int .i64 ((F.getD i (0,0,0)).2.2)]),(6,.pointer (some ⟨b12,0,none⟩)),(32,.int .i64 ((i:Nat):Int)),(31,.int .i64 ((nf:Nat):Int)),(30,.slice pf nf cf),(1,.pointer (some ⟨b1,0,none⟩))]) (fun x=>[boxA b12 44 [.int .i64 ((F.getD i (0,0,0)).1),.int .i64 ((F.getD i (0,0,0)).2.1),.int .i64 ((F.getD i (0,0,0)).2.2)],boxA b1 25 [.slice pv nv cv,.slice pf nf cf]]) (fun x=>[atF b9 o10 [.int .i64 ((F.getD i (0,0,0)).1),.int .i64 ((F.getD i (0,0,0)).2.1),.int .i64 ((F.getD i (0,0,0)).2.2)],slF (rI3 .i64) pv cv V,slF (rI3 .i64) pf cf F]) ?_ ?_
         ·
          refine za<|r_pv rfl rfl (zb rfl)<|r_pv rfl rfl (zE rfl rfl)<|zpa rfl rfl (zb rfl) (fun h15=> ?_) (fun h15=> ?_)
          ·
           refine zi rfl rfl<|zi rfl rfl<|zi rfl rfl<|zi rfl rfl<|zi rfl rfl<|r_pv rfl rfl (zH rfl rfl)<|zg ?_
           exact zja () (show True from by first|trivial|omega|simp_all) ((.e rfl (congrArg Value.bool (by first|(simp_all;done)|(simp_all;omega)|(simp;omega)|omega)) (.of rfl)):SubM _ _) (ho:=((.of [0,0] rfl):PickO _ _ _)) ((.of [0,1,2] rfl):SelR _ _ _)
          ·
           refine r_pv rfl rfl (zb rfl)<|r_pv rfl rfl (zn Try.underlying25 rfl sz22 rfl rfl)<|r_u rfl rfl (zf 1 ty22 rfl rfl rfl)<|r_pv rfl rfl (zJ Try.underlying22 rfl)<|r_pv rfl rfl (zcb rfl rfl)<|r_pv rfl rfl (zH rfl rfl)<|zg ?_
           exact zja () (show True from by first|trivial|omega|simp_all) ((.e rfl (congrArg Value.bool (by first|(simp_all;done)|(simp_all;omega)|(simp;omega)|omega)) (.of rfl)):SubM _ _) (ho:=((.of [0,0] rfl):PickO _ _ _)) ((.of [0,1,2] rfl):SelR _ _ _)
         ·
          rintro ⟨⟩ -
          try dsimp only
          refine zD rfl (fun hix=> ?_) (fun hix=> ?_)
          ·
           refine ze<|za<|r_pv rfl rfl (zd rfl)<|zg<|zc<|zK<|zo<|zk<|zk<|zo<|zk<|zo<|zk<|zk<|zo<|zk ?_
           have hs:=Ms.formF_step (n:=V.length) (F:=F) (i:=i) (by omega)
           exact zB Try.results20 () trivial (zx rfl) (by rw [hform,←hfm,hs,if_pos (by simp only [Ms.badIx,decide_eq_true_eq];omega)]) (ho:=(.n:PickO _ _ _)) (.n:SelR _ _ _)
          ·
           refine zu<|zA<|zc<|za<|r_pv rfl rfl (zC (z:=3) rfl rfl (w64 (by decide)))<|r_pv rfl rfl (zb rfl)<|zg<|zna<|zaa<|ze<|za<|r_pv rfl rfl (zE rfl rfl)<|zg<|zc<|ze<|zya rfl rfl<|zX<|zj<|zj<|zp<|zc<|zLa (X:=Unit) (fun x=>True) (fun x=>[(68,.bool (decide ((((F.getD i (0,0,0)).1=(F.getD i (0,0,0)).2.1)∨((F.getD i (0,0,0)).2.1=(F.getD i (0,0,0)).2.2))∨((F.getD i (0,0,0)).2.2=(F.getD i (0,0,0)).1)))),(32,.int .i64 ((i:Nat):Int)),(31,.int .i64 ((nf:Nat):Int)),(30,.slice pf nf cf),(1,.pointer (some ⟨b1,0,none⟩))]) (fun x=>[boxA b12 44 [.int .i64 ((F.getD i (0,0,0)).1),.int .i64 ((F.getD i (0,0,0)).2.1),.int .i64 ((F.getD i (0,0,0)).2.2)],boxA b1 25 [.slice pv nv cv,.slice pf nf cf]]) (fun x=>[atF b9 o10 [.int .i64 ((F.getD i (0,0,0)).1),.int .i64 ((F.getD i (0,0,0)).2.1),.int .i64 ((F.getD i (0,0,0)).2.2)],slF (rI3 .i64) pv cv V,slF (rI3 .i64) pf cf F]) ?_ ?_
           ·
            refine za<|r_pv rfl rfl (zm (i:=0) Try.underlying44 sz3 rfl rfl (by decide) rfl)<|r_u rfl rfl (zf 0 ty3 rfl rfl rfl)<|r_pv rfl rfl (zm (i:=1) Try.underlying44 sz3 rfl rfl (by decide) rfl)<|r_u rfl rfl (zf 0 ty3 rfl rfl rfl)<|r_pv rfl rfl (zFa rfl rfl)<|zpa rfl rfl (zb rfl) (fun h16=> ?_) (fun h16=> ?_)
            ·
             refine zi rfl rfl<|zi rfl rfl<|zi rfl rfl<|zi rfl rfl<|zi rfl rfl<|r_pv rfl rfl (zH rfl rfl)<|r_pv rfl rfl (zb rfl)<|zi rfl rfl<|zi rfl rfl<|zi rfl rfl<|zi rfl rfl<|zi rfl rfl<|r_pv rfl rfl (zH rfl rfl)<|zg ?_
             exact zja () (show True from by first|trivial|omega|simp_all) ((.e rfl (congrArg Value.bool (by first|(simp_all;done)|(simp_all;omega)|(simp;omega)|omega)) (.of rfl)):SubM _ _) (ho:=((.of [0,0] rfl):PickO _ _ _)) ((.of [0,1,2] rfl):SelR _ _ _)
            ·
             refine r_pv rfl rfl (zm (i:=1) Try.underlying44 sz3 rfl rfl (by decide) rfl)<|r_u rfl rfl (zf 0 ty3 rfl rfl rfl)<|r_pv rfl rfl (zm (i:=2) Try.underlying44 sz3 rfl rfl (by decide) rfl)<|r_u rfl rfl (zf 0 ty3 rfl rfl rfl)<|r_pv rfl rfl (zFa rfl rfl)<|r_pv rfl rfl (zH rfl rfl)<|zpa rfl rfl (zb rfl) (fun h17=> ?_) (fun h17=> ?_)
             ·
              refine zi rfl rfl<|zi rfl rfl<|zi rfl rfl<|zi rfl rfl<|zi rfl rfl<|r_pv rfl rfl (zH rfl rfl)<|zg ?_
              exact zja () (show True from by first|trivial|omega|simp_all) ((.e rfl (congrArg Value.bool (by first|(simp_all;done)|(simp_all;omega)|(simp;omega)|omega)) (.of rfl)):SubM _ _) (ho:=((.of [0,0] rfl):PickO _ _ _)) ((.of [0,1,2] rfl):SelR _ _ _)
             ·
              refine r_pv rfl rfl (zm (i:=2) Try.underlying44 sz3 rfl rfl (by decide) rfl)<|r_u rfl rfl (zf 0 ty3 rfl rfl rfl)<|r_pv rfl rfl (zm (i:=0) Try.underlying44 sz3 rfl rfl (by decide) rfl)<|r_u rfl rfl (zf 0 ty3 rfl rfl rfl)<|r_pv rfl rfl (zFa rfl rfl)<|r_pv rfl rfl (zH rfl rfl)<|zg ?_
              exact zja () (show True from by first|trivial|omega|simp_all) ((.e rfl (congrArg Value.bool (by first|(simp_all;done)|(simp_all;omega)|(simp;omega)|omega)) (.of rfl)):SubM _ _) (ho:=((.of [0,0] rfl):PickO _ _ _)) ((.of [0,1,2] rfl):SelR _ _ _)
           ·
            rintro ⟨⟩ -
            try dsimp only
            refine zD rfl (fun hdg=> ?_) (fun hdg=> ?_)
            ·
             refine ze<|za<|r_pv rfl rfl (zd rfl)<|zg<|zc<|zK<|zo<|zk<|zk<|zo<|zk ?_
             have hs:=Ms.formF_step (n:=V.length) (F:=F) (i:=i) (by omega)
             exact zB Try.results20 () trivial (zx rfl) (by rw [hform,←hfm,hs,if_neg (by simp only [Ms.badIx,decide_eq_true_eq];omega),if_pos (by simp only [Ms.deg,decide_eq_true_eq];omega)]) (ho:=(.n:PickO _ _ _)) (.n:SelR _ _ _)
            ·
             refine zu<|zA<|zc<|za<|r_pv rfl rfl (zC (z:=(((i+1):Nat):Int)) rfl rfl (w64 (by omega)))<|r_pv rfl rfl (zb rfl)<|zg<|zba (i+1) (show (i+1)≤nf∧Ms.formF V.length (F.drop (i+1))=Ms.formF V.length F from by have hs:=Ms.formF_step (n:=V.length) (F:=F) (i:=i) (by omega);exact ⟨by omega,by rw [← hfm,hs,if_neg (by simp only [Ms.badIx,decide_eq_true_eq];omega),if_neg (by simp only [Ms.deg,decide_eq_true_eq];omega)]⟩) (by show nf - (i+1)<nf - i;omega) ((.of rfl):SubM _ _) (ho:=((.c (i:=1) rfl .n):PickO _ _ _)) ((.of [1,2] rfl):SelR _ _ _)
    ·
     refine zX<|zj<|zj<|zp<|zc<|ze<|za<|r_pv rfl rfl (zd rfl)<|zg<|zc<|zK ?_
     exact zB Try.results20 () trivial (zx rfl) (by rw [hform,←hfm,List.drop_eq_nil_of_le (by omega)];rfl) (ho:=(.n:PickO _ _ _)) (.n:SelR _ _ _)
end Go.Proofs.Ytalfgjpbbongcaa.Sp
