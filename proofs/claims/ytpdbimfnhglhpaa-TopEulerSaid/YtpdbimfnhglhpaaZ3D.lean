/- Lemmas on the walk and plain lemmas that the claim of this folder uses; each states its own conditions. Lines were printed by a program of ours. -/
import Derived.Test.YtpdbimfnhglhpaaZ3C
set_option linter.unusedVariables false
set_option linter.unusedSimpArgs false
set_option linter.unusedSectionVars false
open Go.Value renaming int → ya
open Go.IntKind renaming i64 → yb
open Go.Proofs.Ytpdbimfnhglhpaa.Ms renaming at_ → yc, find → yd, sides → ye, pairs → yf, mrk → yg, UInv → yh, check → yj, sl → yk, formF_step → yl, Marks → ym, partsL → yn, bordersR → yo, joinU → yp, form_zero → yq, all_lt_succ → yr, eulerR → yt, RowsAre → yu, mul_lim → yv, formF → yw, nodup_step → yx, check_form → yz, all → yA, usedM → yB, farI → yC
namespace Go.Proofs.Ytpdbimfnhglhpaa.Fl
open Sp (Bb b0)
theorem tog_comm (a b:Bb):tog a b=tog b a:=by unfold tog;simp only [Bb.mk.injEq];omega
theorem tog_assoc (a b c:Bb):tog (tog a b) c=tog a (tog b c):=by unfold tog;simp only [Bb.mk.injEq];omega
def om:Option Bb→Option Bb→Option Bb
  |none,b=>b
  |some a,none=>some a
  |some a,some b=>some (tog a b)
theorem om_none (a:Option Bb):om a none=a:=by cases a <;> rfl
theorem om_comm (a b:Option Bb):om a b=om b a:=by
  cases a <;> cases b <;> simp only [om]
  rw [tog_comm]
theorem om_assoc (a b c:Option Bb):om (om a b) c=om a (om b c):=by
  cases a <;> cases b <;> cases c <;> simp only [om]
  rw [tog_assoc]
def sumP:List (Option Bb)→Option Bb
  |[]=>none
  |a :: t=>om a (sumP t)
def sumO (l:List Bb):Option Bb:=sumP (l.map some)
theorem sumP_append (A B:List (Option Bb)):sumP (A++B)=om (sumP A) (sumP B):=by
  induction A with
  |nil=>rfl
  |cons a t ih=>rw [List.cons_append,sumP,ih,sumP,om_assoc]
theorem sumO_append (A B:List Bb):sumO (A++B)=om (sumO A) (sumO B):=by unfold sumO;rw [List.map_append,sumP_append]
theorem sumO_cons (x:Bb) (B:List Bb):sumO (x :: B)=om (some x) (sumO B):=rfl
theorem sumP_nones {α:Type} (l:List α):sumP (l.map (fun _=>none))=none:=by
  induction l with
  |nil=>rfl
  |cons a t ih=>rw [List.map_cons,sumP,ih];rfl
theorem sumP_one {g g':Nat→Option Bb} {k:Nat} {x:Option Bb} (hk:g' k=om (g k) x) (ho:∀j,j≠k→g' j=g j):∀N,k<N→sumP ((List.range N).map g')=om (sumP ((List.range N).map g)) x:=by
  intro N
  induction N with
  |zero=>intro h;omega
  |succ N ih=>
    intro h
    rw [List.range_succ,List.map_append,List.map_append,sumP_append,sumP_append,List.map_cons,List.map_cons,List.map_nil,List.map_nil]
    by_cases e:k=N
    · subst e
      have h1:(List.range k).map g'=(List.range k).map g:=List.map_congr_left fun j hj=>ho j (by have:=List.mem_range.1 hj;omega)
      rw [h1,hk];simp only [sumP,om_none];rw [om_assoc]
    · rw [ih (by omega), ho N (by omega)]; simp only [sumP, om_none]
      rw [om_assoc,om_comm x,←om_assoc]
def oW (f:Nat→Bool) (n:Nat):List Int:=(List.range n).map (fun j=>if f j then 0 else -1)
theorem oW_get {f:Nat→Bool} {n i:Nat} (h:i<n):(oW f n).getD i 0=if f i then 0 else -1:=by
  unfold oW;rw [List.getD_eq_getElem?_getD,List.getElem?_map,List.getElem?_range h];rfl
theorem acc_om {w:Nat} {l o:List Int} {k:Int} {i:Nat} (hx:o.getD i 0=k):acc w l o k (i+1)=om (acc w l o k i) (some (one w l i)):=by
  rw [acc_next hx];cases acc w l o k i <;> rfl
section
variable {w n : Nat} {f : Nat → Bool} {adj : Nat → Nat → Prop} {c : Nat → Nat} {l o : List Int}
theorem whole_step (hc:Lst (fun j=>f j=true) adj c) (hn:∀j,f j=true→j<n) (h:LabC n f c o):∀i,i≤n→sumP ((List.range (cnt (ldr f c) n)).map (fun k:Nat=>acc w l o (k:Int) i))=acc w l (oW f n) 0 i:=by
  intro i
  induction i with
  |zero=>intro _;exact sumP_nones _
  |succ i ih=>
    intro hi
    have hw:=oW_get (f:=f) (show i<n by omega)
    by_cases e:f i=true
    · rw [if_pos e] at hw
      rw [acc_om hw,←ih (by omega)]
      have hl:=h.lt hc hn (show i<n by omega) e
      refine sumP_one (k:=(o.getD i 0).toNat) ?_ (fun j hj=> ?_) _ (by omega)
      · rw [acc_om (by omega)]
      · rw [acc_keep (by omega)]
    · rw [if_neg e] at hw
      rw [acc_keep (show ¬(oW f n).getD i 0=0 by omega),←ih (by omega)]
      refine congrArg sumP (List.map_congr_left fun k _=>acc_keep ?_)
      rw [h.not i (by omega) e];omega
theorem cnt_surj (q:Nat→Bool):∀n k,k<cnt q n→∃j,j<n∧q j=true∧cnt q j=k:=by
  intro n
  induction n with
  |zero=>intro k h;exact absurd h (by simp [cnt])
  |succ n ih=>
    intro k h
    rw [cnt_succ] at h
    by_cases e:k<cnt q n
    · obtain ⟨j,a,b,d⟩:=ih k e;exact ⟨j,by omega,b,d⟩
    · by_cases x : q n = true
      · rw [if_pos x] at h;exact ⟨n,by omega,x,by omega⟩
      · rw [if_neg x] at h;omega
theorem acc_all (h:LabC n f c o) {k:Nat} (hk:k<cnt (ldr f c) n):acc w l o (k:Int) n≠none:=by
  obtain ⟨j,a,b,d⟩:=cnt_surj _ _ _ hk
  refine acc_some n ⟨j,a,?_⟩
  rw [h.yes j a (ldr_iff.1 b).1,(ldr_iff.1 b).2,d]
theorem whole_sum (hc:Lst (fun j=>f j=true) adj c) (hn:∀j,f j=true→j<n) (h:LabC n f c o):sumO (bls w l o (cnt (ldr f c) n) n)=acc w l (oW f n) 0 n:=by
  rw [← whole_step (w:=w) (l:=l) hc hn h n (Nat.le_refl _)]
  unfold sumO bls
  rw [List.map_map]
  refine congrArg sumP (List.map_congr_left fun k hk=> ?_)
  have:=acc_all (w:=w) (l:=l) h (List.mem_range.1 hk)
  show some (gb _)=_
  cases e:acc w l o (k:Int) n with
  |none=>exact absurd e this
  |some a=>rfl
end
theorem BlsR.ok {w h m th:Int} {l:List Int} {A:List Bb} (a:BlsR w h m l th A):∀g∈A,okb g:=by
  intro g hg
  by_cases e:Bl.rok w h m l∧0≤th∧th≤65536
  · obtain ⟨c, o, h1, h2, h3⟩ := a.1 e
    obtain ⟨u,v,rfl,rfl,hw,hh,hn,hb⟩:=rok_n e.1 rfl
    rw [h3] at hg
    obtain ⟨k,hk,rfl⟩:=List.mem_map.1 hg
    exact gb_okn (acc_all h2 (List.mem_range.1 hk)) (acc_ok hw hh.2 hn hb (rok_g e.1 rfl) _ (Nat.le_refl _))
  · rw [a.2 e] at hg;cases hg
def tar:List Bb→Int
  |[]=>0
  |a :: t=>a.ar+tar t
theorem tar_append (A B:List Bb):tar (A++B)=tar A+tar B:=by
  induction A with
  |nil=>simp [tar]
  |cons a t ih=>rw [List.cons_append,tar,ih,tar];omega
theorem tar_sum:∀A:List Bb,(∀s,sumO A=some s→s.ar=tar A)
  |[]=>fun s h=>by cases h
  |a :: t=>fun s h=>by
    rw [sumO_cons] at h
    cases e:sumO t with
    |none=>
      rw [e] at h;cases h
      cases t with
      |nil=>simp [tar]
      |cons b t=>rw [sumO_cons] at e;cases h2:sumO t <;> rw [h2] at e <;> cases e
    |some b=>rw [e] at h;cases h;have:=tar_sum t b e;show a.ar+b.ar=_;rw [this];rfl
theorem tar_pos {A:List Bb} (h:∀x∈A,okb x):0≤tar A:=by
  induction A with
  |nil=>exact Int.le_refl _
  |cons a t ih=>have h1:=(h a (by simp)).1;have h2:=ih fun x hx=>h x (by simp [hx]);rw [tar];omega
theorem split2 {A:List Bb} {i:Nat} (h:i+1<A.length):∃P x Q y,A=P++x :: (Q++[y])∧P.length=i∧A.getD i b0=x∧A.getD (A.length - 1) b0=y∧∀v,(A.set i v).take (A.length - 1)=P++v :: Q:=by
  have hne:A.drop (i+1)≠[]:=fun e=>by have:=congrArg List.length e;rw [List.length_drop] at this;simp at this;omega
  have e1:A=A.take i++A[i] :: ((A.drop (i+1)).dropLast++[(A.drop (i+1)).getLast hne]):=by
    rw [List.dropLast_concat_getLast hne,←List.drop_eq_getElem_cons (show i<A.length by omega),List.take_append_drop]
  obtain ⟨P,hP⟩:∃P,P=A.take i:=⟨_,rfl⟩
  obtain ⟨Q,hQ⟩:∃Q,Q=(A.drop (i+1)).dropLast:=⟨_,rfl⟩
  obtain ⟨x,hx⟩:∃x,x=A[i]:=⟨_,rfl⟩
  obtain ⟨y,hy⟩:∃y,y=(A.drop (i+1)).getLast hne:=⟨_,rfl⟩
  rw [← hP,←hQ,←hx,←hy] at e1
  have hl:P.length=i:=by rw [hP,List.length_take];omega
  refine ⟨P,x,Q,y,e1,hl,?_,?_,fun v=> ?_⟩
  · rw [List.getD_eq_getElem?_getD,List.getElem?_eq_getElem (by omega),hx];rfl
  · rw [e1, List.getD_eq_getElem?_getD]
    have e2:(P++x :: (Q++[y])).length - 1=P.length+(Q.length+1):=by simp
    rw [e2,List.getElem?_append_right (by omega),Nat.add_sub_cancel_left,List.getElem?_cons_succ,List.getElem?_append_right (Nat.le_refl _)];simp
  · have e2 : A.length - 1 = P.length + (Q.length + 1) := by rw [e1]; simp
    rw [e2,e1,←hl,List.set_append_right _ _ (Nat.le_refl _),Nat.sub_self,List.set_cons_zero,List.take_append,List.take_of_length_le (by omega),Nat.add_sub_cancel_left,List.take_succ_cons,List.take_append,List.take_of_length_le (Nat.le_refl _),Nat.sub_self]
    simp
structure WhI (T:Option Bb) (N k:Nat) (A:List Bb):Prop where
  sum:sumO A=T
  ok:∀x∈A,okb x
  len:k+A.length=N
theorem WhI.step {T:Option Bb} {N k i:Nat} {A:List Bb} (h:WhI T N k A) (hT:∀s,T=some s→s.ar≤4096) (hi:i+1<A.length):
    okb (A.getD i b0)∧okb (A.getD (A.length - 1) b0)∧(A.getD i b0).ar+(A.getD (A.length - 1) b0).ar≤4096∧WhI T N (k+1) ((A.set i (tog (A.getD i b0) (A.getD (A.length - 1) b0))).take (A.length - 1)):=by
  obtain ⟨P,x,Q,y,e1,e2,e3,e4,e5⟩:=split2 hi
  rw [e5,e3,e4]
  have hx:okb x:=h.ok x (by rw [e1];simp)
  have hy:okb y:=h.ok y (by rw [e1];simp)
  have hP:=tar_pos (A:=P) fun z hz=>h.ok z (by rw [e1];simp [hz])
  have hQ:=tar_pos (A:=Q) fun z hz=>h.ok z (by rw [e1];simp [hz])
  have hs:x.ar+y.ar≤4096:=by
    cases e:T with
    |none=>
      have:=h.sum;rw [e1,e,sumO_append,sumO_cons] at this
      cases h1:sumO P <;> cases h2:sumO (Q++[y]) <;> rw [h1,h2] at this <;> cases this
    |some s=>
      have h1:=tar_sum A s (by rw [h.sum,e])
      rw [e1,tar_append,tar,tar_append,tar,tar] at h1
      have:=hT s e;omega
  refine ⟨hx,hy,hs,?_,fun z hz=> ?_,?_⟩
  · rw [← h.sum, e1, sumO_append, sumO_append, sumO_cons, sumO_cons, sumO_append, sumO_cons]
    have:sumO ([]:List Bb)=none:=rfl
    rw [this,om_none]
    congr 1
    rw [om_comm (sumO Q),←om_assoc];rfl
  · rcases List.mem_append.1 hz with a | a
    · exact h.ok z (by rw [e1];simp [a])
    · rcases List.mem_cons.1 a with a | a
      · rw [a];exact tog_ok hx hy hs
      · exact h.ok z (by rw [e1];simp [a])
  · have:=h.len;rw [e1] at this;simp only [List.length_append,List.length_cons,List.length_nil] at this ⊢;omega
theorem WhI.nil {T:Option Bb} {N k:Nat} {A:List Bb} (h:WhI T N k A) (hl:A.length=0):T=none:=by
  rw [← h.sum,List.length_eq_zero_iff.1 hl];rfl
theorem WhI.one {T:Option Bb} {N k:Nat} {A:List Bb} (h:WhI T N k A) (hl:A.length=1):A.getD 0 b0=gb T:=by
  obtain ⟨x,rfl⟩:=List.length_eq_one_iff.1 hl
  rw [← h.sum];rfl
end Go.Proofs.Ytpdbimfnhglhpaa.Fl
namespace Go.Proofs.Ytpdbimfnhglhpaa.Te
open Eu Fl
set_option linter.unusedVariables false
section
variable {w h n : Nat} {f g : Nat → Bool}
theorem pt_num {p:P2} (h1:p.1≤w) (h2:p.2≤h):Ms.pt (eV w h) ((num w p:Nat):Int)=((p.1:Int),(p.2:Int),0):=by
  have hl:=num_lt h1 h2
  have hm:=num_md h1
  unfold Ms.pt eV
  rw [Int.toNat_natCast,List.getD_eq_getElem?_getD,List.getElem?_map,List.getElem?_range hl]
  show (((num w p%(w+1):Nat):Int),((num w p / (w+1):Nat):Int),(0:Int))=_
  rw [hm.1,hm.2]
theorem nrm_tri (hw:0<w) (hn:n=w*h) {j:Nat} (hj:j<n) {t:Ms.V3} (ht:t∈tri w j):Ms.nrm (eV w h) t=(0,0,1):=by
  have hx:=Nat.mod_lt j hw
  have hy:j / w<h:=Nat.div_lt_of_lt_mul (hn ▸ hj)
  have e0:=pt_num (w:=w) (h:=h) (p:=(j%w,j / w)) (by dsimp only;omega) (by dsimp only;omega)
  have e1:=pt_num (w:=w) (h:=h) (p:=(j%w+1,j / w)) (by dsimp only;omega) (by dsimp only;omega)
  have e2:=pt_num (w:=w) (h:=h) (p:=(j%w,j / w+1)) (by dsimp only;omega) (by dsimp only;omega)
  have e3:=pt_num (w:=w) (h:=h) (p:=(j%w+1,j / w+1)) (by dsimp only;omega) (by dsimp only;omega)
  rw [num_r] at e1 e3
  rw [num_d] at e2 e3
  rw [← kk_num] at e0 e1 e2 e3
  have c1:((kk w j+1:Nat):Int)=(kk w j:Nat)+1:=by omega
  have c2:((kk w j+w+1:Nat):Int)=(kk w j:Nat)+w+1:=by omega
  have c3:((kk w j+w+1+1:Nat):Int)=(kk w j:Nat)+w+2:=by omega
  rw [c1] at e1;rw [c2] at e2;rw [c3] at e3
  unfold Ms.nrm
  simp only [tri,List.mem_cons,List.not_mem_nil,or_false] at ht
  rcases ht with rfl|rfl
  · dsimp only
    rw [e0,e1,e3]
    unfold Ms.cross Ms.sub
    dsimp only
    push_cast
    refine Prod.ext ?_ (Prod.ext ?_ ?_) <;> dsimp only <;> grind
  · dsimp only
    rw [e0,e2,e3]
    unfold Ms.cross Ms.sub
    dsimp only
    push_cast
    refine Prod.ext ?_ (Prod.ext ?_ ?_) <;> dsimp only <;> grind
theorem sum_const {F:List Ms.V3} {k:Ms.V3→Int} {c:Int} (hk:∀t∈F,k t=c):Ms.sumI (F.map k)=c*F.length:=by
  induction F with
  |nil=>show (0:Int)=c*((0:Nat):Int);omega
  |cons a t ih=>
    rw [List.map_cons,Ms.sumI,ih fun x hx=>hk x (by simp [hx]),hk a (by simp),List.length_cons]
    push_cast
    grind
theorem vec_eq (hw:0<w) (hn:n=w*h):Ms.vecS (eV w h) (eF w f n)=(0,0,2*(((List.range n).filter f).length:Int)):=by
  have hf:∀t∈eF w f n,Ms.nrm (eV w h) t=(0,0,1):=fun t ht=>by
    obtain ⟨j,hj,_,ht⟩:=mem_eF.1 ht
    exact nrm_tri hw hn hj ht
  unfold Ms.vecS
  rw [Ms.vecS_foldl,sum_const (c:=0) fun t ht=>by rw [hf t ht],sum_const (c:=0) fun t ht=>by rw [hf t ht],sum_const (c:=1) fun t ht=>by rw [hf t ht],eF_len]
  refine Prod.ext ?_ (Prod.ext ?_ ?_) <;> dsimp only <;> omega
theorem acc_ar {l:List Int}:∀i,i≤n→(gb (acc w l (oW f n) 0 i)).ar=(((List.range i).filter f).length:Int)
  |0,_=>rfl
  |i+1,hi=>by
    have ih:=acc_ar (l:=l) i (by omega)
    have ho:=oW_get (f:=f) (show i<n by omega)
    rw [List.range_succ,List.filter_append,List.length_append,List.filter_cons]
    cases hf:f i
    · rw [hf] at ho
      rw [acc_keep (by rw [ho];decide),ih];simp
    · rw [hf] at ho
      have ho:(oW f n).getD i 0=0:=by rw [ho];rfl
      rw [acc_om ho]
      cases ha:acc w l (oW f n) 0 i with
      |none=>
        rw [ha] at ih
        have ih:(0:Int)=(((List.range i).filter f).length:Int):=ih
        show (1:Int)=_
        simp;omega
      |some s=>
        rw [ha] at ih
        have ih:s.ar=(((List.range i).filter f).length:Int):=ih
        show s.ar+1=_
        simp;omega
theorem tar_eq {l:List Int} {c:Nat→Nat} {o:List Int} {adj:Nat→Nat→Prop} (hc:Lst (fun j=>f j=true) adj c) (hn:∀j,f j=true→j<n) (ho:LabC n f c o):tar (bls w l o (cnt (ldr f c) n) n)=(((List.range n).filter f).length:Int):=by
  have h1:=whole_sum (w:=w) (l:=l) hc hn ho
  have h2:=acc_ar (w:=w) (n:=n) (f:=f) (l:=l) n (Nat.le_refl _)
  cases hs:acc w l (oW f n) 0 n with
  |none=>
    rw [hs] at h1 h2
    have h2:(0:Int)=(((List.range n).filter f).length:Int):=h2
    cases hb:bls w l o (cnt (ldr f c) n) n with
    |nil=>rw [← h2];rfl
    |cons a t=>
      rw [hb,sumO_cons] at h1
      cases ht:sumO t <;> rw [ht] at h1 <;> cases h1
  |some s=>
    rw [hs] at h1 h2
    rw [← tar_sum _ s h1];exact h2
end
structure Ans (w h:Nat) (f:Nat→Bool) (n:Nat) (A:List Sp.Bb) (z:Int):Prop where
  ck:yj (eV w h) (eF w f n)=0
  eu:Ms.eulerP (eF w f n)=(A.length:Int) - z
  lo:∀bm,Ms.BMap (eF w f n) bm→((Ms.loops (fun jj=>Sp.mget bm jj) (eV w h).length).length:Int)=(A.length:Int)+z
  pa:mostL (yn (eF w f n))=(A.length:Int)
  ar:tar A=(((List.range n).filter f).length:Int)
  ve:Ms.vecS (eV w h) (eF w f n)=(0,0,2*(((List.range n).filter f).length:Int))
theorem law {w h n:Nat} {m th z:Int} {l:List Int} {A:List Sp.Bb} (hok:Bl.rok w h m l∧0≤th∧th≤65536) (hn:l.length=n) (hwh:n=w*h) (hw:0<w) (hh:0<h) (h100:n≤100) (hb:w≤100∧h≤100) (hnt:NTp w h (ge l th)) (hA:BlsR w h m l th A) (hz:HolR w h m l th z):Ans w h (ge l th) n A z:=by
  subst hn
  obtain ⟨c,o,hc,ho,e⟩:=hA.1 hok
  obtain ⟨d,hd,e2⟩:=hz.1 hok
  have hf:∀j,ge l th j=true→j<l.length:=fun j hj=>ge_lt hj
  have hg:∀j,lo l th j=true→j<l.length:=fun j hj=>lo_lt hj
  have hlg:∀j,j<l.length→(lo l th j=true↔ge l th j=false):=fun j hj=>by unfold lo ge;rw [decide_eq_true hj];simp
  have hck:=check_eF (f:=ge l th) hw hh hwh h100 hb (nt_of hw hwh hnt)
  have hlen:A.length=((List.range l.length).filter (ldr (ge l th) c)).length:=by rw [e,bls_len];rfl
  have hhol:z=((hls l.length w h (lo l th) d).length:Int):=by rw [e2];rfl
  refine ⟨hck,?_,fun bm hbm=> ?_,?_,?_,vec_eq hw hwh⟩
  · rw [euler_eq hw hnt hwh hf hc hd hg hlg hck,hlen,hhol]
  · rw [loops_count hw hnt hwh hf hc hd hg hlg hck hbm,hlen,hhol];push_cast;rfl
  · rw [parts_cnt hw hwh hf hc,hlen]
  · rw [e];exact tar_eq hc hf ho
end Go.Proofs.Ytpdbimfnhglhpaa.Te
namespace Go.Proofs.Ytpdbimfnhglhpaa.Te
open Eu Fl
set_option linter.unusedVariables false
def eVk (w k:Nat):List Ms.V3:=(List.range k).map fun k=>(((k%(w+1):Nat):Int),((k / (w+1):Nat):Int),0)
theorem eVk_len (w k:Nat):(eVk w k).length=k:=by unfold eVk;simp
theorem eVk_succ (w k:Nat):eVk w (k+1)=eVk w k++[(((k%(w+1):Nat):Int),((k / (w+1):Nat):Int),0)]:=by unfold eVk;rw [List.range_succ,List.map_append];rfl
def aC (f:Nat→Bool) (j:Nat):Int:=(((List.range j).filter f).length:Int)
section
variable {w h n : Nat} {f : Nat → Bool} {l : List Int} {th : Int}
theorem aC_y {j:Nat} (h:f j=true):aC f (j+1)=aC f j+1:=by
  unfold aC;rw [List.range_succ,List.filter_append,List.filter_cons,if_pos h,List.length_append];simp
theorem aC_n {j:Nat} (h:¬f j=true):aC f (j+1)=aC f j:=by
  unfold aC;rw [List.range_succ,List.filter_append,List.filter_cons,if_neg h,List.length_append];simp
theorem aC_b (f:Nat→Bool) (j:Nat):0≤aC f j∧aC f j≤j:=by
  unfold aC
  have:=List.length_filter_le f (List.range j)
  rw [List.length_range] at this;omega
theorem eF_y {j:Nat} (h:f j=true):eF w f (j+1)=eF w f j++tri w j:=by
  unfold eF;rw [List.range_succ,List.flatMap_append];simp [h]
theorem eF_n {j:Nat} (h:¬f j=true):eF w f (j+1)=eF w f j:=by
  unfold eF;rw [List.range_succ,List.flatMap_append];simp [h]
theorem eF_b (w:Nat) (f:Nat→Bool) (j:Nat):(eF w f j).length≤2*j:=by
  rw [eF_len]
  have:=List.length_filter_le f (List.range j)
  rw [List.length_range] at this;omega
theorem tri_xy {x y:Nat} (hx:x<w):tri w (y*w+x)=[(((y*(w+1)+x:Nat):Int),((y*(w+1)+x:Nat):Int)+1,((y*(w+1)+x:Nat):Int)+w+2),(((y*(w+1)+x:Nat):Int),((y*(w+1)+x:Nat):Int)+w+2,((y*(w+1)+x:Nat):Int)+w+1)]:=by
  unfold tri;rw [kk_xy hx]
def Bd (l:List Int) (th:Int) (w x y:Nat):Prop:=decide (th≤l.getD (y*w+x) 0)=decide (th≤l.getD ((y+1)*w+(x+1)) 0)∧decide (th≤l.getD (y*w+(x+1)) 0)=decide (th≤l.getD ((y+1)*w+x) 0)∧decide (th≤l.getD (y*w+x) 0)≠decide (th≤l.getD (y*w+(x+1)) 0)
theorem ix_s (x y:Nat):ix w (x+1,y+1)=y*w+x:=by unfold ix;rfl
theorem pic_ge (hl:l.length=n) (hn:n=w*h) {x y:Nat} (hx:x<w) (hy:y<h):pic w h (ge l th) (x+1,y+1)=decide (th≤l.getD (y*w+x) 0):=by
  have hi:inn w h (x+1,y+1):=by unfold inn;dsimp only;omega
  have hm:=(ix_md hn hi).1
  unfold pic
  rw [decide_eq_true hi,Bool.true_and,ix_s]
  rw [ix_s] at hm
  unfold ge
  rw [decide_eq_true (by omega),Bool.true_and]
theorem nt_walk (hl:l.length=n) (hn:n=w*h) (hb:∀y x,y+1<h→x+1<w→¬Bd l th w x y):NTp w h (ge l th):=fun x y=>by
  by_cases hi:(1≤x∧x+1≤w)∧1≤y∧y+1≤h
  · obtain ⟨a, rfl⟩ : ∃ a, x = a + 1 := ⟨x - 1, by omega⟩
    obtain ⟨b,rfl⟩:∃b,y=b+1:=⟨y - 1,by omega⟩
    have k:=hb b a (by omega) (by omega)
    unfold Bd at k
    rw [pic_ge hl hn (x:=a) (y:=b) (by omega) (by omega),pic_ge hl hn (x:=a+1) (y:=b) (by omega) (by omega),pic_ge hl hn (x:=a) (y:=b+1) (by omega) (by omega),pic_ge hl hn (x:=a+1) (y:=b+1) (by omega) (by omega)]
    revert k
    generalize decide (th≤l.getD (b*w+a) 0)=A
    generalize decide (th≤l.getD ((b+1)*w+(a+1)) 0)=B
    generalize decide (th≤l.getD (b*w+(a+1)) 0)=C
    generalize decide (th≤l.getD ((b+1)*w+a) 0)=D
    cases A <;> cases B <;> cases C <;> cases D <;> decide
  · constructor
    · intro h1 h2
      have a:=(pic_iff.1 h1).1;have b:=(pic_iff.1 h2).1
      unfold inn at a b;dsimp only at a b;omega
    · intro h1 h2
      have a:=(pic_iff.1 h1).1;have b:=(pic_iff.1 h2).1
      unfold inn at a b;dsimp only at a b;omega
theorem row_end (w y:Nat):y*w+w=(y+1)*w:=(Nat.succ_mul y w).symm
theorem ge_at (hl:l.length=n) {j:Nat} (hj:j<n):(ge l th j=true)=(th≤l.getD j 0):=by
  unfold ge;rw [decide_eq_true (by omega),Bool.true_and];simp
theorem ix_lt {x y:Nat} (hn:n=w*h) (hx:x<w) (hy:y<h):y*w+x<n:=by
  have:=Nat.mul_le_mul_right w (show y+1≤h by omega)
  rw [Nat.succ_mul,Nat.mul_comm h w] at this;omega
theorem most_take {l:List Int} {i:Nat} (h:i<l.length):mostL (l.take (i+1))=max (mostL (l.take i)) (l.getD i 0+1):=by
  rw [Ms.take_snoc 0 h,most_snoc]
theorem tar_take {A:List Sp.Bb} {i:Nat} (h:i<A.length):tar (A.take (i+1))=tar (A.take i)+(A.getD i Sp.b0).ar:=by
  rw [Ms.take_snoc Sp.b0 h,tar_append];show _+((A.getD i Sp.b0).ar+0)=_;omega
end
end Go.Proofs.Ytpdbimfnhglhpaa.Te
namespace Go.Proofs.Ytpdbimfnhglhpaa.Te
open Eu Fl
set_option linter.unusedVariables false
def ring:List Int:=[1,1,1,1,0,1,1,1,1]
theorem ring_ok:Bl.rok 3 3 1 ring∧(0:Int)≤1∧(1:Int)≤65536:=by
  refine ⟨⟨by decide,by decide,by decide,by decide,?_⟩,by decide,by decide⟩
  rintro ⟨g,hg,hb⟩
  simp only [ring,List.mem_cons,List.not_mem_nil,or_false] at hg
  omega
theorem ring_4 {j:Nat} (h:lo ring 1 j=true):j=4:=by
  have hl:j<9:=lo_lt h
  have:∀j,j<9→lo ring 1 j=true→j=4:=by decide
  exact this j hl h
theorem ring_z {z:Int} (h:HolR 3 3 1 ring 1 z):z=1:=by
  have k:HolR 3 3 1 ring 1 1:=⟨fun _=>⟨id,⟨fun _ _=>Nat.le_refl _,fun _ _=> .refl _,fun i k hi hk hn=>by
    have a:=ring_4 hi;have b:=ring_4 hk
    exact absurd (a.trans b.symm) hn.2.2.1⟩,by decide +kernel⟩,fun e=>absurd ring_ok e⟩
  exact h.uniq k
theorem tri_c:yj [(0,0,0),(1,0,0),(0,1,0)] [(0,1,2)]=0:=by decide +kernel
theorem tri_e:yt [(0,0,0),(1,0,0),(0,1,0)] [(0,1,2)]=1:=by decide +kernel
theorem tri_n {w x y:Nat} (hx:x<w):tri w (y*w+x)=[(((y*(w+1)+x:Nat):Int),((y*(w+1)+x+1:Nat):Int),((y*(w+1)+x+w+2:Nat):Int)),(((y*(w+1)+x:Nat):Int),((y*(w+1)+x+w+2:Nat):Int),((y*(w+1)+x+w+1:Nat):Int))]:=by
  rw [tri_xy hx]
  have a:((y*(w+1)+x+1:Nat):Int)=((y*(w+1)+x:Nat):Int)+1:=by omega
  have b:((y*(w+1)+x+w+2:Nat):Int)=((y*(w+1)+x:Nat):Int)+w+2:=by omega
  have c:((y*(w+1)+x+w+1:Nat):Int)=((y*(w+1)+x:Nat):Int)+w+1:=by omega
  rw [a,b,c]
theorem part_b (F:List Ms.V3) (k:Nat):0≤(yn F).getD k 0∧(yn F).getD k 0≤(F.length:Int):=by
  rw [Ms.partsL_eq];exact Ms.numsL_rng _ _ k
theorem part_len (F:List Ms.V3):(yn F).length=F.length:=by rw [Ms.partsL_eq,Ms.numsL_len]
theorem most_b {l:List Int} {N:Int} (hN:0≤N) (h:∀k,l.getD k 0≤N):∀k,k≤l.length→0≤mostL (l.take k)∧mostL (l.take k)≤N+1
  |0,_=>by show (0:Int)≤0∧(0:Int)≤N+1;omega
  |k+1,hk=>by
    rw [most_take (by omega)]
    have:=most_b hN h k (by omega)
    have:=h k
    omega
theorem tar_b {A:List Sp.Bb} (h:∀g∈A,okb g) (k:Nat):0≤tar (A.take k)∧tar (A.take k)≤tar A:=by
  have h1:=tar_pos (A:=A.take k) fun g hg=>h g (List.mem_of_mem_take hg)
  have h2:=tar_pos (A:=A.drop k) fun g hg=>h g (List.mem_of_mem_drop hg)
  have h3:tar A=tar (A.take k)+tar (A.drop k):=by rw [← tar_append,List.take_append_drop]
  omega
theorem wh_b {w h n:Nat} (hn:n=w*h) (h1:n≤100) (hw:w≤64) (hh:h≤64):(w+1)*(h+1)≤230:=by
  have e:(w+1)*(h+1)=w*h+w+h+1:=by rw [Nat.mul_succ,Nat.succ_mul];omega
  omega
end Go.Proofs.Ytpdbimfnhglhpaa.Te
namespace Go.Proofs.Ytpdbimfnhglhpaa.Sp
open Go
set_option linter.unusedVariables false
set_option maxRecDepth 100000
set_option maxHeartbeats 8000000
theorem zBb {ex:Int} {ey:Int} {ez:Int}:Con Try.prog 26 [.agg #[.int .i64 ex,.int .i64 ey,.int .i64 ez]] [] [] (Y:=Unit) (fun y=>True) (fun y=> .agg #[.int .i64 ex,.int .i64 ey,.int .i64 ey,.int .i64 ez,.int .i64 ez,.int .i64 ex]) (fun y=>[]) (fun y=>[]):=by
 refine zC Try.func26 rfl rfl rfl (fun c=> ?_)
 show RunC _ _ _ _ _ [(0,.agg #[.int .i64 ex,.int .i64 ey,.int .i64 ez])] [] []
 refine zf<|za<|zZ rfl rfl (zka rfl rfl) (fun b1=> ?_)
 refine zZ rfl rfl (zF zr73 rfl) (fun b2=> ?_)
 refine zi<|zc<|zf<|za<|e_p (zk (i:=0) Try.underlying35 sz3 rfl rfl dd rfl)<|e_ru (zb 1 ty3 rfl rfl rfl)<|e_p (zk (i:=1) Try.underlying35 sz3 rfl rfl dd rfl)<|e_ru (zb 1 ty3 rfl rfl rfl)<|e_p (zA zr68 rfl Try.underlying68 sz3 (.c rfl (.c rfl .n)) (.c rfl rfl rfl (.take .nil) (.c rfl rfl rfl (.skip (.take .nil)) .n)))<|e_p (zk (i:=1) Try.underlying35 sz3 rfl rfl dd rfl)<|e_ru (zb 1 ty3 rfl rfl rfl)<|e_p (zk (i:=2) Try.underlying35 sz3 rfl rfl dd rfl)<|e_ru (zb 1 ty3 rfl rfl rfl)<|e_p (zA zr68 rfl Try.underlying68 sz3 (.c rfl (.c rfl .n)) (.c rfl rfl rfl (.take .nil) (.c rfl rfl rfl (.skip (.take .nil)) .n)))<|e_p (zk (i:=2) Try.underlying35 sz3 rfl rfl dd rfl)<|e_ru (zb 1 ty3 rfl rfl rfl)<|e_p (zk (i:=0) Try.underlying35 sz3 rfl rfl dd rfl)<|e_ru (zb 1 ty3 rfl rfl rfl)<|e_p (zA zr68 rfl Try.underlying68 sz3 (.c rfl (.c rfl .n)) (.c rfl rfl rfl (.take .nil) (.c rfl rfl rfl (.skip (.take .nil)) .n)))<|e_p (zA zr73 rfl Try.underlying73 sz68 (.c rfl (.c rfl (.c rfl .n))) (.c rfl rfl rfl (.t2 .nil) (.c rfl rfl rfl (.s2 (.t2 .nil)) (.c rfl rfl rfl (.s4 (.t2 .nil)) .n))))<|zE 0 rfl rfl rfl rfl rfl sz73 rfl (.t4 (.t2 .nil)) .z<|zi<|zc<|zU ?_
 exact zO Try.results26 () trivial (zPa 0 ty73 rfl rfl (.t4 (.t2 .nil))) rfl (ho:=oN) sN
theorem zqa {ex:Int} {ey:Int}:Con Try.prog 30 [.agg #[.int .i64 ex,.int .i64 ey]] [] [] (Y:=Unit) (fun y=>True) (fun y=> .agg #[.int .i64 (min ex ey),.int .i64 (max ex ey)]) (fun y=>[]) (fun y=>[]):=by
 refine zC Try.func30 rfl rfl rfl (fun c=> ?_)
 show RunC _ _ _ _ _ [(0,.agg #[.int .i64 ex,.int .i64 ey])] [] []
 refine zf<|za<|zZ rfl rfl (zka rfl rfl) (fun b1=> ?_)
 refine zZ rfl rfl (zF zr68 rfl) (fun b2=> ?_)
 refine zi<|zc<|zf<|za<|e_p (zk (i:=0) Try.underlying68 sz3 rfl rfl dd rfl)<|e_ru (zb 1 ty3 rfl rfl rfl)<|e_p (zk (i:=1) Try.underlying68 sz3 rfl rfl dd rfl)<|e_ru (zb 1 ty3 rfl rfl rfl)<|e_p (zqc rfl rfl)<|e_p (zk (i:=0) Try.underlying68 sz3 rfl rfl dd rfl)<|e_ru (zb 1 ty3 rfl rfl rfl)<|e_p (zk (i:=1) Try.underlying68 sz3 rfl rfl dd rfl)<|e_ru (zb 1 ty3 rfl rfl rfl)<|e_p (zGb rfl rfl)<|e_p (zA zr68 rfl Try.underlying68 sz3 (.c rfl (.c rfl .n)) (.c rfl rfl rfl (.take .nil) (.c rfl rfl rfl (.skip (.take .nil)) .n)))<|zE 0 rfl rfl rfl rfl rfl sz68 rfl (.t2 .nil) .z<|zi<|zc<|zU ?_
 exact zO Try.results30 () trivial (zPa 0 ty68 rfl rfl (.t2 .nil)) rfl (ho:=oN) sN
theorem zcd {n:Int}:Con Try.prog 37 [.int .i64 n] [] [] (Y:=Unit) (fun y=>True) (fun y=> .bool (yC n)) (fun y=>[]) (fun y=>[]):=by
 refine zC Try.func37 rfl rfl rfl (fun c=> ?_)
 show RunC _ _ _ _ _ [(0,.int .i64 n)] [] []
 refine zf<|za<|e_p (zd rfl)<|zi<|zc<|zJa (X:=Unit) (fun x=>True) (fun x=>[(2,.bool (decide ((n<(-0x100000))∨(0x100000<n))))]) (fun x=>[]) (fun x=>[]) ?_ ?_
 ·
  refine za<|e_mv rfl<|e_p (zD rfl rfl)<|zI rfl rfl (zL rfl) (fun h1=> ?_) (fun h1=> ?_)
  ·
   refine e_no<|e_no<|e_p (zn rfl rfl)<|e_p (zd rfl)<|zi ?_
   exact zS () tt9 ((.e rfl (congrArg Value.bool cbu) .n):SubM _ _) (ho:=oN) sN
  ·
   refine e_mv rfl<|e_p (zMa rfl rfl)<|e_p (zn rfl rfl)<|e_p (zd rfl)<|zi ?_
   exact zS () tt9 ((.e rfl (congrArg Value.bool cbu) .n):SubM _ _) (ho:=oN) sN
 ·
  rintro ⟨⟩ -
  try dsimp only
  refine zU ?_
  exact zO Try.results37 () trivial (zx rfl) rfl (ho:=oN) sN
theorem zSc {p:Option Addr} {n:Nat} {cap:Nat} {l:List (Int)} (hn:l.length=n):Con Try.prog 38 [.slice p n cap,.func (.func 37) #[] #[]] [] [slF (rI .i64) p cap l] (Y:=Int) (fun y=>(0≤y↔l.any yC=true)) (fun y=> .int .i64 y) (fun y=>[]) (fun y=>[]):=by
 refine zC Try.func38 rfl rfl rfl (fun c=> ?_)
 show RunC _ _ _ _ _ [(0,.slice p n cap),(1,.func (.func 37) #[] #[])] [] [slF (rI .i64) p cap l]
 refine zpa 0 rfl (fun hL0=> ?_)
 refine zf<|za<|e_p (zd rfl)<|zi<|zc<|zf<|zf<|za<|e_mv rfl<|e_p (zR Try.underlying22 rfl)<|e_mv rfl<|zi<|zc<|zq<|zY (X:=Nat) (fun x:Nat=>x≤n∧∀j,j<x→yC (l.getD j 0)=false) (fun x=>[(8,.int .i64 ((x:Nat):Int)),(7,.int .i64 ((n:Nat):Int)),(0,.slice p n cap),(1,.func (.func 37) #[] #[])]) (fun x=>[]) (fun x=>[slF (rI .i64) p cap l]) (fun x:Nat=>n - x) 0 (show 0≤n∧∀j,j<0→yC (l.getD j 0)=false from by exact ⟨by omega,fun j h=>by omega⟩) ((.e rfl cgs (.of rfl)):SubM _ _) (ho:=oN) (s0 rfl) ?_
 rintro i hI
 replace hI:i≤n∧∀j,j<i→yC (l.getD j 0)=false:=hI
 try dsimp only
 obtain ⟨hi,hall⟩:=hI
 refine zf<|za<|e_p (zD rfl rfl)<|zi<|zc<|zf<|zG rfl (fun h1=> ?_) (fun h1=> ?_)
 ·
  refine zw<|zc<|zf<|zq<|zf<|za<|e_mv rfl<|e_p (zd rfl)<|zi<|zc<|zf<|za<|e_mv rfl<|e_mv rfl<|e_mv rfl<|zM (x0:=(l.getD i 0)) 0 i rfl Try.underlying22 sz3 rfl rfl rfl cbs rfl rfl (gD (d:=0) om) (fun b2 o3 hok4=> ?_)
  replace hok4:=ze.1 hok4
  refine e_ru (zp (j:=0) 0 ty3 rfl rfl rfl rfl)<|zQa (first:=[]) (cap:=[]) rfl rfl rfl (.c rfl .n) ce37 (zcd (n:=(l.getD i 0))) (.n) ?_
  rintro ⟨⟩ -
  dsimp only [aq,nq,cq]
  refine zi<|zc<|zAa rfl (fun hb=> ?_) (fun hb=> ?_)
  ·
   refine zf<|za<|e_mv rfl<|e_p (zd rfl)<|zi<|zc<|zU<|zu<|zl<|zl<|zu<|zl ?_
   exact zO Try.results38 ((i:Nat):Int) (⟨fun _=>Ms.any_true 0 (i:=i) om (by first|exact hb|simpa using hb),fun _=>by omega⟩) (zx rfl) rfl (ho:=oN) sN
  ·
   refine zw<|zB<|zc<|za<|e_p (zv (z:=(((i+1):Nat):Int)) rfl rfl (w64 om))<|e_mv rfl<|zi<|zQ (i+1) (show (i+1)≤n∧∀j,j<(i+1)→yC (l.getD j 0)=false from by exact ⟨by omega,yr hall (by first|exact hb|simpa using hb)⟩) (by show n - (i+1)<n - i;omega) (mR rfl) (ho:=oN) ((.c (j:=1) rfl .n):SelR _ _ _)
 ·
  refine zP<|zj<|zj<|zo<|zc<|zf<|za<|e_p (zd rfl)<|zi<|zc<|zU ?_
  exact zO Try.results38 (-1) (⟨fun h=>by omega,fun h=>by rw [Ms.any_false 0 (fun j hj=>hall j om)] at h;cases h⟩) (zx rfl) rfl (ho:=oN) sN
theorem zTc {p:Option Addr} {n:Nat} {cap:Nat} {l:List (Int)} (hn:l.length=n):Con Try.prog 34 [.slice p n cap,.func (.func 37) #[] #[]] [] [slF (rI .i64) p cap l] (Y:=Unit) (fun y=>True) (fun y=> .bool (l.any yC)) (fun y=>[]) (fun y=>[]):=by
 refine zC Try.func34 rfl rfl rfl (fun c=> ?_)
 show RunC _ _ _ _ _ [(0,.slice p n cap),(1,.func (.func 37) #[] #[])] [] [slF (rI .i64) p cap l]
 refine zpa 0 rfl (fun hL0=> ?_)
 refine zf<|za<|e_p (zd rfl)<|zi<|zc<|zf<|za<|e_mv rfl<|e_mv rfl<|zFa rfl rfl (.c rfl (.c rfl .n)) ce38 (zSc (p:=p) (n:=n) (cap:=cap) (l:=l) (hn:=ass)) (.c (j:=0) rfl .n) ?_
 rintro r1 hr
 dsimp only [aq,nq,cq]
 replace hr:(0≤r1↔l.any yC=true):=hr
 refine e_p (zNa rfl rfl)<|e_p (zd rfl)<|zi<|zc<|zU ?_
 exact zO Try.results34 () trivial (zx rfl) (congrArg Value.bool (by rw [Bool.eq_iff_iff,decide_eq_true_iff];exact hr.symm)) (ho:=oN) sN
theorem zpd {ex:Int} {ey:Int} {ez:Int} (hx: -9223372036854775808≤ex∧ex≤9223372036854775807) (hy: -9223372036854775808≤ey∧ey≤9223372036854775807) (hz: -9223372036854775808≤ez∧ez≤9223372036854775807):Con Try.prog 33 [.agg #[.int .i64 ex,.int .i64 ey,.int .i64 ez]] [] [] (Y:=Unit) (fun y=>True) (fun y=> .bool (Ms.far (ex,ey,ez))) (fun y=>[]) (fun y=>[]):=by
 refine zC Try.func33 rfl rfl rfl (fun c=> ?_)
 show RunC _ _ _ _ _ [(0,.agg #[.int .i64 ex,.int .i64 ey,.int .i64 ez])] [] []
 refine zf<|za<|zZ rfl rfl (zka rfl rfl) (fun b1=> ?_)
 refine e_p (zd rfl)<|zi<|zc<|zf<|za<|e_p (zg Try.underlying34 rfl sz3 rfl rfl)<|e_ru (zb 0 ty3 rfl rfl rfl)<|e_p (zg Try.underlying34 rfl sz3 rfl rfl)<|e_ru (zb 0 ty3 rfl rfl rfl)<|e_p (zg Try.underlying34 rfl sz3 rfl rfl)<|e_ru (zb 0 ty3 rfl rfl rfl)<|zwa rfl rfl (zt (enc:=fun z:Int=>[.int .i64 z]) (ok:=InK .i64) (h1:=fun _=>rfl) (h2:=fun _=>rfl) (k:=3) Try.underlying22 inf3 rfl dd dd dd (.c (x:=ex) rfl rfl (fun _ _=>by exact ze.2 om) (.c (x:=ey) rfl rfl (fun _ _=>by exact ze.2 om) (.c (x:=ez) rfl rfl (fun _ _=>by exact ze.2 om) .n)))) (fun b2 _=> ?_)
 refine zua 0 rfl .z<|zia rfl rfl (.c rfl (.c rfl .n)) ce34 (zTc (p:=some ⟨b2,0,none⟩) (n:=3) (cap:=3) (l:=[ex,ey,ez]) (hn:=cbb)) (.c (j:=0) rfl .n)<|e_p (zd rfl)<|zi<|zc<|zU ?_
 exact zO Try.results33 () trivial (zx rfl) rfl (ho:=oN) sN
theorem zCc {p:Option Addr} {n:Nat} {cap:Nat} {l:List (Int×Int×Int)} (hn:l.length=n):Con Try.prog 36 [.slice p n cap,.func (.func 33) #[] #[]] [] [slF (rI3 .i64) p cap l] (Y:=Int) (fun y=>(0≤y↔l.any Ms.far=true)) (fun y=> .int .i64 y) (fun y=>[]) (fun y=>[]):=by
 refine zC Try.func36 rfl rfl rfl (fun c=> ?_)
 show RunC _ _ _ _ _ [(0,.slice p n cap),(1,.func (.func 33) #[] #[])] [] [slF (rI3 .i64) p cap l]
 refine zpa 0 rfl (fun hL0=> ?_)
 refine zf<|za<|e_p (zd rfl)<|zi<|zc<|zf<|zf<|za<|e_mv rfl<|e_p (zR Try.underlying29 rfl)<|e_mv rfl<|zi<|zc<|zq<|zY (X:=Nat) (fun x:Nat=>x≤n∧∀j,j<x→Ms.far (l.getD j (0,0,0))=false) (fun x=>[(8,.int .i64 ((x:Nat):Int)),(7,.int .i64 ((n:Nat):Int)),(0,.slice p n cap),(1,.func (.func 33) #[] #[])]) (fun x=>[]) (fun x=>[slF (rI3 .i64) p cap l]) (fun x:Nat=>n - x) 0 (show 0≤n∧∀j,j<0→Ms.far (l.getD j (0,0,0))=false from by exact ⟨by omega,fun j h=>by omega⟩) ((.e rfl cgs (.of rfl)):SubM _ _) (ho:=oN) (s0 rfl) ?_
 rintro i hI
 replace hI:i≤n∧∀j,j<i→Ms.far (l.getD j (0,0,0))=false:=hI
 try dsimp only
 obtain ⟨hi,hall⟩:=hI
 refine zf<|za<|e_p (zD rfl rfl)<|zi<|zc<|zf<|zG rfl (fun h1=> ?_) (fun h1=> ?_)
 ·
  refine zw<|zc<|zf<|zq<|zf<|za<|e_mv rfl<|e_p (zd rfl)<|zi<|zc<|zf<|za<|e_mv rfl<|e_mv rfl<|e_mv rfl<|zM (x0:=(l.getD i (0,0,0))) 0 i rfl Try.underlying29 sz34 rfl rfl rfl cbs rfl rfl (gD (d:=(0,0,0)) om) (fun b2 o3 hok4=> ?_)
  obtain ⟨hok4x,hok4y,hok4z⟩:=hok4
  replace hok4x:=ze.1 hok4x
  replace hok4y:=ze.1 hok4y
  replace hok4z:=ze.1 hok4z
  refine e_ru (zJ (j:=0) 0 ty34 rfl rfl rfl (.t2 (.take .nil)))<|zQa (first:=[]) (cap:=[]) rfl rfl rfl (.c rfl .n) ce33 (zpd (ex:=(l.getD i (0,0,0)).1) (ey:=(l.getD i (0,0,0)).2.1) (ez:=(l.getD i (0,0,0)).2.2) (hx:=cbb) (hy:=cbb) (hz:=cbb)) (.n) ?_
  rintro ⟨⟩ -
  dsimp only [aq,nq,cq]
  refine zi<|zc<|zAa rfl (fun hb=> ?_) (fun hb=> ?_)
  ·
   refine zf<|za<|e_mv rfl<|e_p (zd rfl)<|zi<|zc<|zU<|zu<|zl<|zl<|zu<|zl ?_
   exact zO Try.results36 ((i:Nat):Int) (⟨fun _=>Ms.any_true (0,0,0) (i:=i) om (by first|exact hb|simpa using hb),fun _=>by omega⟩) (zx rfl) rfl (ho:=oN) sN
  ·
   refine zw<|zB<|zc<|za<|e_p (zv (z:=(((i+1):Nat):Int)) rfl rfl (w64 om))<|e_mv rfl<|zi<|zQ (i+1) (show (i+1)≤n∧∀j,j<(i+1)→Ms.far (l.getD j (0,0,0))=false from by exact ⟨by omega,yr hall (by first|exact hb|simpa using hb)⟩) (by show n - (i+1)<n - i;omega) (mR rfl) (ho:=oN) ((.c (j:=1) rfl .n):SelR _ _ _)
 ·
  refine zP<|zj<|zj<|zo<|zc<|zf<|za<|e_p (zd rfl)<|zi<|zc<|zU ?_
  exact zO Try.results36 (-1) (⟨fun h=>by omega,fun h=>by rw [Ms.any_false (0,0,0) (fun j hj=>hall j om)] at h;cases h⟩) (zx rfl) rfl (ho:=oN) sN
theorem zDc {p:Option Addr} {n:Nat} {cap:Nat} {l:List (Int×Int×Int)} (hn:l.length=n):Con Try.prog 32 [.slice p n cap,.func (.func 33) #[] #[]] [] [slF (rI3 .i64) p cap l] (Y:=Unit) (fun y=>True) (fun y=> .bool (l.any Ms.far)) (fun y=>[]) (fun y=>[]):=by
 refine zC Try.func32 rfl rfl rfl (fun c=> ?_)
 show RunC _ _ _ _ _ [(0,.slice p n cap),(1,.func (.func 33) #[] #[])] [] [slF (rI3 .i64) p cap l]
 refine zpa 0 rfl (fun hL0=> ?_)
 refine zf<|za<|e_p (zd rfl)<|zi<|zc<|zf<|za<|e_mv rfl<|e_mv rfl<|zFa rfl rfl (.c rfl (.c rfl .n)) ce36 (zCc (p:=p) (n:=n) (cap:=cap) (l:=l) (hn:=ass)) (.c (j:=0) rfl .n) ?_
 rintro r1 hr
 dsimp only [aq,nq,cq]
 replace hr:(0≤r1↔l.any Ms.far=true):=hr
 refine e_p (zNa rfl rfl)<|e_p (zd rfl)<|zi<|zc<|zU ?_
 exact zO Try.results32 () trivial (zx rfl) (congrArg Value.bool (by rw [Bool.eq_iff_iff,decide_eq_true_iff];exact hr.symm)) (ho:=oN) sN
theorem zdd {pv:Option Addr} {nv:Nat} {cv:Nat} {V:List (Int×Int×Int)} {pf:Option Addr} {nf:Nat} {cf:Nat} {F:List (Int×Int×Int)} (hnv:V.length=nv) (hnf:F.length=nf):Con Try.prog 25 [.agg #[.slice pv nv cv,.slice pf nf cf]] [] [slF (rI3 .i64) pv cv V,slF (rI3 .i64) pf cf F] (Y:=Unit) (fun y=>True) (fun y=> .int .i64 (Ms.form V F)) (fun y=>[]) (fun y=>[]):=by
 refine zC Try.func25 rfl rfl rfl (fun c=> ?_)
 show RunC _ _ _ _ _ [(0,.agg #[.slice pv nv cv,.slice pf nf cf])] [] [slF (rI3 .i64) pv cv V,slF (rI3 .i64) pf cf F]
 refine zpa 0 rfl (fun hL0=> ?_)
 refine zpa 1 rfl (fun hL1=> ?_)
 refine zf<|za<|zZ rfl rfl (zka rfl rfl) (fun b1=> ?_)
 refine e_p (zd rfl)<|zi<|zc<|zf<|zJa (X:=Unit) (fun x=>True) (fun x=>[(16,.bool (decide ((512<((nv:Nat):Int))∨(1024<((nf:Nat):Int))))),(2,.int .i64 0),(1,.pointer (some ⟨b1,0,none⟩))]) (fun x=>[boxA b1 32 [.slice pv nv cv,.slice pf nf cf]]) (fun x=>[slF (rI3 .i64) pv cv V,slF (rI3 .i64) pf cf F]) ?_ ?_
 ·
  refine za<|e_p (zg Try.underlying32 rfl sz29 rfl rfl)<|e_ru (zb 0 ty29 rfl rfl rfl)<|e_p (zR Try.underlying29 rfl)<|e_p (zMa rfl rfl)<|zI rfl rfl (zL rfl) (fun h2=> ?_) (fun h2=> ?_)
  ·
   refine e_no<|e_no<|e_no<|e_no<|e_p (zn rfl rfl)<|zi ?_
   exact zS () tt9 ((.e rfl (congrArg Value.bool cbu) (.c rfl (.c rfl .n))):SubM _ _) (ho:=(o0 rfl)) ((.of [0,1] rfl):SelR _ _ _)
  ·
   refine e_p (zg Try.underlying32 rfl sz30 rfl rfl)<|e_ru (zb 0 ty30 rfl rfl rfl)<|e_p (zR Try.underlying30 rfl)<|e_p (zMa rfl rfl)<|e_p (zn rfl rfl)<|zi ?_
   exact zS () tt9 ((.e rfl (congrArg Value.bool cbu) (.c rfl (.c rfl .n))):SubM _ _) (ho:=(o0 rfl)) ((.of [0,1] rfl):SelR _ _ _)
 ·
  rintro ⟨⟩ -
  try dsimp only
  refine zG rfl (fun hlim=> ?_) (fun hlim=> ?_)
  ·
   refine zf<|za<|e_p (zd rfl)<|zi<|zc<|zU<|zl ?_
   exact zO Try.results25 () trivial (zx rfl) (by rw [Ms.form_lim om]) (ho:=oN) sN
  ·
   refine zw<|zc<|zf<|zf<|za<|e_p (zg Try.underlying32 rfl sz29 rfl rfl)<|e_ru (zb 0 ty29 rfl rfl rfl)<|zia rfl rfl (.c rfl (.c rfl .n)) ce32 (zDc (p:=pv) (n:=nv) (cap:=cv) (l:=V) (hn:=ass)) (.c (j:=0) rfl .n)<|zi<|zc<|zAa rfl (fun hfar=> ?_) (fun hfar=> ?_)
   ·
    refine zf<|za<|e_p (zd rfl)<|zi<|zc<|zU<|zl ?_
    exact zO Try.results25 () trivial (zx rfl) (by rw [Ms.form_far om hfar]) (ho:=oN) sN
   ·
    have hform:=Ms.form_go (V:=V) (F:=F) om hfar
    refine zw<|zc<|zf<|zf<|za<|e_p (zg Try.underlying32 rfl sz30 rfl rfl)<|e_ru (zb 0 ty30 rfl rfl rfl)<|e_p (zR Try.underlying30 rfl)<|e_mv rfl<|zi<|zc<|zq<|zY (X:=Nat) (fun x:Nat=>x≤nf∧yw V.length (F.drop x)=yw V.length F) (fun x=>[(23,.int .i64 ((x:Nat):Int)),(22,.int .i64 ((nf:Nat):Int)),(21,.slice pf nf cf),(1,.pointer (some ⟨b1,0,none⟩))]) (fun x=>[boxA b1 32 [.slice pv nv cv,.slice pf nf cf]]) (fun x=>[slF (rI3 .i64) pv cv V,slF (rI3 .i64) pf cf F]) (fun x:Nat=>nf - x) 0 (show 0≤nf∧yw V.length (F.drop 0)=yw V.length F from by exact ⟨by omega,rfl⟩) ((.e rfl cgs (.of rfl)):SubM _ _) (ho:=(o0 rfl)) ((.of [0,1] rfl):SelR _ _ _) ?_
    rintro i hI
    replace hI:i≤nf∧yw V.length (F.drop i)=yw V.length F:=hI
    try dsimp only
    obtain ⟨hi,hfm⟩:=hI
    refine zf<|za<|e_p (zD rfl rfl)<|zi<|zc<|zf<|zG rfl (fun h3=> ?_) (fun h3=> ?_)
    ·
     refine zw<|zc<|zf<|zq<|zf<|za<|zM (x0:=(F.getD i (0,0,0))) 1 i rfl Try.underlying30 sz35 rfl rfl rfl cbs rfl rfl (gD (d:=(0,0,0)) om) (fun b4 o5 hok6=> ?_)
     obtain ⟨hok6x,hok6y,hok6z⟩:=hok6
     replace hok6x:=ze.1 hok6x
     replace hok6y:=ze.1 hok6y
     replace hok6z:=ze.1 hok6z
     refine e_ru (zJ (j:=0) 0 ty35 rfl rfl rfl (.t2 (.take .nil)))<|zZ rfl rfl (zF zr35 rfl) (fun b7=> ?_)
     refine zE 0 rfl rfl rfl rfl rfl sz35 rfl (.t2 (.take .nil)) .z<|zi<|zc<|zf<|zf<|za<|e_ru (zm 0 ty35 rfl rfl (.t2 (.take .nil)))<|e_mv rfl<|zi<|zc<|zq<|zeb<|zX<|zf<|za<|e_p (zD rfl rfl)<|zi<|zc<|zf<|zW rfl rfl<|zw<|zc<|zf<|zq<|zf<|za<|e_p (zha (i:=0) Try.underlying35 ty3 rfl rfl dd rfl)<|e_p (zd rfl)<|zi<|zc<|zJa (X:=Unit) (fun x=>True) (fun x=>[(39,.bool (decide (((F.getD i (0,0,0)).1<0)∨(((nv:Nat):Int)≤(F.getD i (0,0,0)).1)))),(6,.int .i64 ((F.getD i (0,0,0)).1)),(30,.int .i64 ((F.getD i (0,0,0)).1)),(29,.bool true),(28,.int .i64 0),(27,.agg #[.int .i64 ((F.getD i (0,0,0)).1),.int .i64 ((F.getD i (0,0,0)).2.1),.int .i64 ((F.getD i (0,0,0)).2.2)]),(4,.pointer (some ⟨b7,0,none⟩)),(23,.int .i64 ((i:Nat):Int)),(22,.int .i64 ((nf:Nat):Int)),(21,.slice pf nf cf),(1,.pointer (some ⟨b1,0,none⟩))]) (fun x=>[boxA b7 35 [.int .i64 ((F.getD i (0,0,0)).1),.int .i64 ((F.getD i (0,0,0)).2.1),.int .i64 ((F.getD i (0,0,0)).2.2)],boxA b1 32 [.slice pv nv cv,.slice pf nf cf]]) (fun x=>[atF b4 o5 [.int .i64 ((F.getD i (0,0,0)).1),.int .i64 ((F.getD i (0,0,0)).2.1),.int .i64 ((F.getD i (0,0,0)).2.2)],slF (rI3 .i64) pv cv V,slF (rI3 .i64) pf cf F]) ?_ ?_
     ·
      refine za<|e_mv rfl<|e_p (zD rfl rfl)<|zI rfl rfl (zL rfl) (fun h8=> ?_) (fun h8=> ?_)
      ·
       refine e_no<|e_no<|e_no<|e_no<|e_no<|e_p (zn rfl rfl)<|zi ?_
       exact zS () tt9 ((.e rfl (congrArg Value.bool cbu) (.of rfl)):SubM _ _) (ho:=((.of [0,0] rfl):PickO _ _ _)) ((.of [0,1,2] rfl):SelR _ _ _)
      ·
       refine e_mv rfl<|e_p (zg Try.underlying32 rfl sz29 rfl rfl)<|e_ru (zb 1 ty29 rfl rfl rfl)<|e_p (zR Try.underlying29 rfl)<|e_p (zNa rfl rfl)<|e_p (zn rfl rfl)<|zi ?_
       exact zS () tt9 ((.e rfl (congrArg Value.bool cbu) (.of rfl)):SubM _ _) (ho:=((.of [0,0] rfl):PickO _ _ _)) ((.of [0,1,2] rfl):SelR _ _ _)
     ·
      rintro ⟨⟩ -
      try dsimp only
      refine zG rfl (fun hix=> ?_) (fun hix=> ?_)
      ·
       refine zf<|za<|e_p (zd rfl)<|zi<|zc<|zU<|zu<|zl<|zl<|zu<|zl<|zu<|zl<|zl<|zu<|zl ?_
       have hs:=yl (n:=V.length) (F:=F) (i:=i) om
       exact zO Try.results25 () trivial (zx rfl) (by rw [hform,←hfm,hs,if_pos (by simp only [Ms.badIx,decide_eq_true_eq];omega)]) (ho:=oN) sN
      ·
       refine zw<|zB<|zc<|za<|e_p (zv (z:=1) rfl rfl (w64 dd))<|e_mv rfl<|zi<|zja<|zX<|zf<|za<|e_p (zD rfl rfl)<|zi<|zc<|zf<|zW rfl rfl<|zw<|zc<|zf<|zq<|zf<|za<|e_p (zha (i:=1) Try.underlying35 ty3 rfl rfl dd rfl)<|e_p (zd rfl)<|zi<|zc<|zJa (X:=Unit) (fun x=>True) (fun x=>[(39,.bool (decide (((F.getD i (0,0,0)).2.1<0)∨(((nv:Nat):Int)≤(F.getD i (0,0,0)).2.1)))),(6,.int .i64 ((F.getD i (0,0,0)).2.1)),(30,.int .i64 ((F.getD i (0,0,0)).2.1)),(29,.bool true),(28,.int .i64 1),(40,.int .i64 1),(27,.agg #[.int .i64 ((F.getD i (0,0,0)).1),.int .i64 ((F.getD i (0,0,0)).2.1),.int .i64 ((F.getD i (0,0,0)).2.2)]),(4,.pointer (some ⟨b7,0,none⟩)),(23,.int .i64 ((i:Nat):Int)),(22,.int .i64 ((nf:Nat):Int)),(21,.slice pf nf cf),(1,.pointer (some ⟨b1,0,none⟩))]) (fun x=>[boxA b7 35 [.int .i64 ((F.getD i (0,0,0)).1),.int .i64 ((F.getD i (0,0,0)).2.1),.int .i64 ((F.getD i (0,0,0)).2.2)],boxA b1 32 [.slice pv nv cv,.slice pf nf cf]]) (fun x=>[atF b4 o5 [.int .i64 ((F.getD i (0,0,0)).1),.int .i64 ((F.getD i (0,0,0)).2.1),.int .i64 ((F.getD i (0,0,0)).2.2)],slF (rI3 .i64) pv cv V,slF (rI3 .i64) pf cf F]) ?_ ?_
       ·
        refine za<|e_mv rfl<|e_p (zD rfl rfl)<|zI rfl rfl (zL rfl) (fun h9=> ?_) (fun h9=> ?_)
        ·
         refine e_no<|e_no<|e_no<|e_no<|e_no<|e_p (zn rfl rfl)<|zi ?_
         exact zS () tt9 ((.e rfl (congrArg Value.bool cbu) (.of rfl)):SubM _ _) (ho:=((.of [0,0] rfl):PickO _ _ _)) ((.of [0,1,2] rfl):SelR _ _ _)
        ·
         refine e_mv rfl<|e_p (zg Try.underlying32 rfl sz29 rfl rfl)<|e_ru (zb 1 ty29 rfl rfl rfl)<|e_p (zR Try.underlying29 rfl)<|e_p (zNa rfl rfl)<|e_p (zn rfl rfl)<|zi ?_
         exact zS () tt9 ((.e rfl (congrArg Value.bool cbu) (.of rfl)):SubM _ _) (ho:=((.of [0,0] rfl):PickO _ _ _)) ((.of [0,1,2] rfl):SelR _ _ _)
       ·
        rintro ⟨⟩ -
        try dsimp only
        refine zG rfl (fun hix=> ?_) (fun hix=> ?_)
        ·
         refine zf<|za<|e_p (zd rfl)<|zi<|zc<|zU<|zu<|zl<|zl<|zu<|zl<|zu<|zl<|zl<|zu<|zl ?_
         have hs:=yl (n:=V.length) (F:=F) (i:=i) om
         exact zO Try.results25 () trivial (zx rfl) (by rw [hform,←hfm,hs,if_pos (by simp only [Ms.badIx,decide_eq_true_eq];omega)]) (ho:=oN) sN
        ·
         refine zw<|zB<|zc<|za<|e_p (zv (z:=2) rfl rfl (w64 dd))<|e_mv rfl<|zi<|zja<|zX<|zf<|za<|e_p (zD rfl rfl)<|zi<|zc<|zf<|zW rfl rfl<|zw<|zc<|zf<|zq<|zf<|za<|e_p (zha (i:=2) Try.underlying35 ty3 rfl rfl dd rfl)<|e_p (zd rfl)<|zi<|zc<|zJa (X:=Unit) (fun x=>True) (fun x=>[(39,.bool (decide (((F.getD i (0,0,0)).2.2<0)∨(((nv:Nat):Int)≤(F.getD i (0,0,0)).2.2)))),(6,.int .i64 ((F.getD i (0,0,0)).2.2)),(30,.int .i64 ((F.getD i (0,0,0)).2.2)),(29,.bool true),(28,.int .i64 2),(40,.int .i64 2),(27,.agg #[.int .i64 ((F.getD i (0,0,0)).1),.int .i64 ((F.getD i (0,0,0)).2.1),.int .i64 ((F.getD i (0,0,0)).2.2)]),(4,.pointer (some ⟨b7,0,none⟩)),(23,.int .i64 ((i:Nat):Int)),(22,.int .i64 ((nf:Nat):Int)),(21,.slice pf nf cf),(1,.pointer (some ⟨b1,0,none⟩))]) (fun x=>[boxA b7 35 [.int .i64 ((F.getD i (0,0,0)).1),.int .i64 ((F.getD i (0,0,0)).2.1),.int .i64 ((F.getD i (0,0,0)).2.2)],boxA b1 32 [.slice pv nv cv,.slice pf nf cf]]) (fun x=>[atF b4 o5 [.int .i64 ((F.getD i (0,0,0)).1),.int .i64 ((F.getD i (0,0,0)).2.1),.int .i64 ((F.getD i (0,0,0)).2.2)],slF (rI3 .i64) pv cv V,slF (rI3 .i64) pf cf F]) ?_ ?_
         ·
          refine za<|e_mv rfl<|e_p (zD rfl rfl)<|zI rfl rfl (zL rfl) (fun h10=> ?_) (fun h10=> ?_)
          ·
           refine e_no<|e_no<|e_no<|e_no<|e_no<|e_p (zn rfl rfl)<|zi ?_
           exact zS () tt9 ((.e rfl (congrArg Value.bool cbu) (.of rfl)):SubM _ _) (ho:=((.of [0,0] rfl):PickO _ _ _)) ((.of [0,1,2] rfl):SelR _ _ _)
          ·
           refine e_mv rfl<|e_p (zg Try.underlying32 rfl sz29 rfl rfl)<|e_ru (zb 1 ty29 rfl rfl rfl)<|e_p (zR Try.underlying29 rfl)<|e_p (zNa rfl rfl)<|e_p (zn rfl rfl)<|zi ?_
           exact zS () tt9 ((.e rfl (congrArg Value.bool cbu) (.of rfl)):SubM _ _) (ho:=((.of [0,0] rfl):PickO _ _ _)) ((.of [0,1,2] rfl):SelR _ _ _)
         ·
          rintro ⟨⟩ -
          try dsimp only
          refine zG rfl (fun hix=> ?_) (fun hix=> ?_)
          ·
           refine zf<|za<|e_p (zd rfl)<|zi<|zc<|zU<|zu<|zl<|zl<|zu<|zl<|zu<|zl<|zl<|zu<|zl ?_
           have hs:=yl (n:=V.length) (F:=F) (i:=i) om
           exact zO Try.results25 () trivial (zx rfl) (by rw [hform,←hfm,hs,if_pos (by simp only [Ms.badIx,decide_eq_true_eq];omega)]) (ho:=oN) sN
          ·
           refine zw<|zB<|zc<|za<|e_p (zv (z:=3) rfl rfl (w64 dd))<|e_mv rfl<|zi<|zja<|zX<|zf<|za<|e_p (zD rfl rfl)<|zi<|zc<|zf<|zEa rfl rfl<|zP<|zj<|zj<|zo<|zc<|zJa (X:=Unit) (fun x=>True) (fun x=>[(59,.bool (decide ((((F.getD i (0,0,0)).1=(F.getD i (0,0,0)).2.1)∨((F.getD i (0,0,0)).2.1=(F.getD i (0,0,0)).2.2))∨((F.getD i (0,0,0)).2.2=(F.getD i (0,0,0)).1)))),(23,.int .i64 ((i:Nat):Int)),(22,.int .i64 ((nf:Nat):Int)),(21,.slice pf nf cf),(1,.pointer (some ⟨b1,0,none⟩))]) (fun x=>[boxA b7 35 [.int .i64 ((F.getD i (0,0,0)).1),.int .i64 ((F.getD i (0,0,0)).2.1),.int .i64 ((F.getD i (0,0,0)).2.2)],boxA b1 32 [.slice pv nv cv,.slice pf nf cf]]) (fun x=>[atF b4 o5 [.int .i64 ((F.getD i (0,0,0)).1),.int .i64 ((F.getD i (0,0,0)).2.1),.int .i64 ((F.getD i (0,0,0)).2.2)],slF (rI3 .i64) pv cv V,slF (rI3 .i64) pf cf F]) ?_ ?_
           ·
            refine za<|e_p (zk (i:=0) Try.underlying35 sz3 rfl rfl dd rfl)<|e_ru (zb 0 ty3 rfl rfl rfl)<|e_p (zk (i:=1) Try.underlying35 sz3 rfl rfl dd rfl)<|e_ru (zb 0 ty3 rfl rfl rfl)<|e_p (zya rfl rfl)<|zI rfl rfl (zL rfl) (fun h11=> ?_) (fun h11=> ?_)
            ·
             refine e_no<|e_no<|e_no<|e_no<|e_no<|e_p (zn rfl rfl)<|e_mv rfl<|e_no<|e_no<|e_no<|e_no<|e_no<|e_p (zn rfl rfl)<|zi ?_
             exact zS () tt9 ((.e rfl (congrArg Value.bool cbu) (.of rfl)):SubM _ _) (ho:=((.of [0,0] rfl):PickO _ _ _)) ((.of [0,1,2] rfl):SelR _ _ _)
            ·
             refine e_p (zk (i:=1) Try.underlying35 sz3 rfl rfl dd rfl)<|e_ru (zb 0 ty3 rfl rfl rfl)<|e_p (zk (i:=2) Try.underlying35 sz3 rfl rfl dd rfl)<|e_ru (zb 0 ty3 rfl rfl rfl)<|e_p (zya rfl rfl)<|e_p (zn rfl rfl)<|zI rfl rfl (zL rfl) (fun h12=> ?_) (fun h12=> ?_)
             ·
              refine e_no<|e_no<|e_no<|e_no<|e_no<|e_p (zn rfl rfl)<|zi ?_
              exact zS () tt9 ((.e rfl (congrArg Value.bool cbu) (.of rfl)):SubM _ _) (ho:=((.of [0,0] rfl):PickO _ _ _)) ((.of [0,1,2] rfl):SelR _ _ _)
             ·
              refine e_p (zk (i:=2) Try.underlying35 sz3 rfl rfl dd rfl)<|e_ru (zb 0 ty3 rfl rfl rfl)<|e_p (zk (i:=0) Try.underlying35 sz3 rfl rfl dd rfl)<|e_ru (zb 0 ty3 rfl rfl rfl)<|e_p (zya rfl rfl)<|e_p (zn rfl rfl)<|zi ?_
              exact zS () tt9 ((.e rfl (congrArg Value.bool cbu) (.of rfl)):SubM _ _) (ho:=((.of [0,0] rfl):PickO _ _ _)) ((.of [0,1,2] rfl):SelR _ _ _)
           ·
            rintro ⟨⟩ -
            try dsimp only
            refine zG rfl (fun hdg=> ?_) (fun hdg=> ?_)
            ·
             refine zf<|za<|e_p (zd rfl)<|zi<|zc<|zU<|zu<|zl<|zl<|zu<|zl ?_
             have hs:=yl (n:=V.length) (F:=F) (i:=i) om
             exact zO Try.results25 () trivial (zx rfl) (by rw [hform,←hfm,hs,if_neg (by simp only [Ms.badIx,decide_eq_true_eq];omega),if_pos (by simp only [Ms.deg,decide_eq_true_eq];omega)]) (ho:=oN) sN
            ·
             refine zw<|zB<|zc<|za<|e_p (zv (z:=(((i+1):Nat):Int)) rfl rfl (w64 om))<|e_mv rfl<|zi<|zQ (i+1) (show (i+1)≤nf∧yw V.length (F.drop (i+1))=yw V.length F from by have hs:=yl (n:=V.length) (F:=F) (i:=i) om;exact ⟨by omega,by rw [← hfm,hs,if_neg (by simp only [Ms.badIx,decide_eq_true_eq];omega),if_neg (by simp only [Ms.deg,decide_eq_true_eq];omega)]⟩) (by show nf - (i+1)<nf - i;omega) (mR rfl) (ho:=((.c (i:=1) rfl .n):PickO _ _ _)) ((.of [1,2] rfl):SelR _ _ _)
    ·
     refine zP<|zj<|zj<|zo<|zc<|zf<|za<|e_p (zd rfl)<|zi<|zc<|zU ?_
     exact zO Try.results25 () trivial (zx rfl) (by rw [hform,←hfm,List.drop_eq_nil_of_le om];rfl) (ho:=oN) sN
end Go.Proofs.Ytpdbimfnhglhpaa.Sp
namespace Go.Proofs.Ytpdbimfnhglhpaa.Sp
open Go
set_option linter.unusedVariables false
set_option maxRecDepth 100000
set_option maxHeartbeats 8000000
theorem zmb {b:Nat} {U:List (Int×Int)} {i0:Int} (hU:Ms.UOk U) (hi0:0≤i0∧i0≤1099511627776):Con Try.prog 24 [.map (some b),.int .i64 i0] [mapA b (fun z:Int=> .int .i64 z) (fun z:Int=> .int .i64 z) (InK .i64) U] [] (Y:=Unit) (fun y=>True) (fun y=> .int .i64 (yd U i0)) (fun y=>[mapA b (fun z:Int=> .int .i64 z) (fun z:Int=> .int .i64 z) (InK .i64) U]) (fun y=>[]):=by
 refine zC Try.func24 rfl rfl rfl (fun c=> ?_)
 show RunC _ _ _ _ _ [(0,.map (some b)),(1,.int .i64 i0)] [mapA b (fun z:Int=> .int .i64 z) (fun z:Int=> .int .i64 z) (InK .i64) U] []
 refine zf<|za<|e_p (zd rfl)<|zi<|zc<|zq<|zY (X:=Int) (fun x:Int=>0≤x∧x≤i0∧yd U x=yd U i0) (fun x=>[(1,.int .i64 x),(0,.map (some b))]) (fun x=>[mapA b (fun z:Int=> .int .i64 z) (fun z:Int=> .int .i64 z) (InK .i64) U]) (fun x=>[]) (fun x:Int=>x.toNat) i0 (show 0≤i0∧i0≤i0∧yd U i0=yd U i0 from by exact ⟨hi0.1,Int.le_refl _,rfl⟩) ((.c rfl (.c rfl .n)):SubM _ _) (ho:=(o0 rfl)) sN ?_
 rintro i hI
 replace hI:0≤i∧i≤i0∧yd U i=yd U i0:=hI
 try dsimp only
 obtain ⟨hi,hile,hfi⟩:=hI
 refine zq<|zf<|za<|e_mv rfl<|e_mv rfl<|e_ru (zKa (z:=0) (a0:=i) (v:= .int .i64 ((mget U i).getD 0)) 0 rfl ky3 Try.underlying66 zr3 rfl rfl (ze.2 om) rfl)<|e_mv rfl<|e_p (zy rfl rfl)<|e_p (zy rfl rfl)<|e_p (zd rfl)<|e_p (zd rfl)<|zi<|zc<|zf<|zJa (X:=Unit) (fun x=>True) (fun x=>[(19,.bool (decide (((!((mget U i).isSome))=true)∨(((mget U i).getD 0)=i)))),(5,.int .i64 ((mget U i).getD 0)),(1,.int .i64 i),(0,.map (some b))]) (fun x=>[mapA b (fun z:Int=> .int .i64 z) (fun z:Int=> .int .i64 z) (InK .i64) U]) (fun x=>[]) ?_ ?_
 ·
  refine za<|e_mv rfl<|e_p (zFb rfl)<|zed rfl rfl (zL rfl) (fun h1=> ?_) (fun h1=> ?_)
  ·
   refine e_no<|e_no<|e_no<|e_p (zn rfl rfl)<|zi ?_
   exact zS () tt9 ((.e rfl (congrArg Value.bool (by first|(simp_all;done)|(simp;done))) (.of rfl)):SubM _ _) (ho:=(o0 rfl)) sN
  ·
   refine e_mv rfl<|e_mv rfl<|e_p (zya rfl rfl)<|e_p (zn rfl rfl)<|zi ?_
   exact zS () tt9 ((.e rfl (congrArg Value.bool (by first|(simp_all;done)|(simp;done))) (.of rfl)):SubM _ _) (ho:=(o0 rfl)) sN
 ·
  rintro ⟨⟩ -
  try dsimp only
  refine zG rfl (fun hst=> ?_) (fun hst=> ?_)
  ·
   refine zf<|za<|e_mv rfl<|e_p (zd rfl)<|zi<|zc<|zU<|zl<|zu<|zl<|zu ?_
   exact zO Try.results24 () trivial (zx rfl) (by rw [← hfi,Ms.find_stop hst]) (ho:=(o0 rfl)) sN
  ·
   refine zw<|zc<|za<|e_mv rfl<|e_p (zd rfl)<|zi<|zB<|zQ ((mget U i).getD 0) (show 0≤((mget U i).getD 0)∧((mget U i).getD 0)≤i0∧yd U ((mget U i).getD 0)=yd U i0 from by have hg:=Ms.find_go hU hst;exact ⟨hg.1,by omega,by rw [hg.2.2,hfi]⟩) (by have hg:=Ms.find_go hU hst;show ((mget U i).getD 0).toNat<i.toNat;omega) ((.c rfl (.c rfl .n)):SubM _ _) (ho:=(o0 rfl)) sN
theorem zub {b:Nat} {U:List (Int×Int)} {i0:Int} {k0:Int} (hU:Ms.UOk U) (hi0:0≤i0∧i0≤1099511627776) (hk0:0≤k0∧k0≤1099511627776):Con Try.prog 23 [.map (some b),.int .i64 i0,.int .i64 k0] [mapA b (fun z:Int=> .int .i64 z) (fun z:Int=> .int .i64 z) (InK .i64) U] [] (Y:=Unit) (fun y=>True) (fun y=> .tuple #[]) (fun y=>[mapA b (fun z:Int=> .int .i64 z) (fun z:Int=> .int .i64 z) (InK .i64) (yp U i0 k0)]) (fun y=>[]):=by
 refine zC Try.func23 rfl rfl rfl (fun c=> ?_)
 show RunC _ _ _ _ _ [(0,.map (some b)),(1,.int .i64 i0),(2,.int .i64 k0)] [mapA b (fun z:Int=> .int .i64 z) (fun z:Int=> .int .i64 z) (InK .i64) U] []
 have hr1:=Ms.find_rng hU i0 hi0.1
 have hr2:=Ms.find_rng hU k0 hk0.1
 refine zf<|za<|e_mv rfl<|e_mv rfl<|zfb (A:=[mapA b (fun z:Int=> .int .i64 z) (fun z:Int=> .int .i64 z) (InK .i64) U]) (F:=[]) (first:=[]) (cap:=[]) rfl rfl rfl (.c rfl (.c rfl .n)) ce24 (zmb (b:=b) (U:=U) (i0:=i0) (hU:=ass) (hi0:=ass)) (.n) ?_
 rintro ⟨⟩ -
 dsimp only [aq,nq,cq]
 refine e_mv rfl<|e_mv rfl<|zfb (A:=[mapA b (fun z:Int=> .int .i64 z) (fun z:Int=> .int .i64 z) (InK .i64) U]) (F:=[]) (first:=[]) (cap:=[]) rfl rfl rfl (.c rfl (.c rfl .n)) ce24 (zmb (b:=b) (U:=U) (i0:=k0) (hU:=ass) (hi0:=ass)) (.n) ?_
 rintro ⟨⟩ -
 dsimp only [aq,nq,cq]
 refine e_p (zd rfl)<|e_p (zd rfl)<|zi<|zc<|za<|e_mv rfl<|e_mv rfl<|e_mv rfl<|e_p (zGb rfl rfl)<|e_mv rfl<|e_mv rfl<|e_p (zqc rfl rfl)<|zna 0 rfl rfl rfl (zT (a0:=(max (yd U i0) (yd U k0))) (v:=(min (yd U i0) (yd U k0))) ky3 Try.underlying66 rfl rfl rfl (ze.2 om)) (fun _=> .z) (fun _ _=> ?_)
 refine zi<|p_end ?_
 exact p_ret0 Try.results23 () trivial rfl (ho:=(o0 rfl)) sN
end Go.Proofs.Ytpdbimfnhglhpaa.Sp
namespace Go.Proofs.Ytpdbimfnhglhpaa.Sp
open Go
set_option linter.unusedVariables false
set_option maxRecDepth 100000
set_option maxHeartbeats 8000000
theorem zbb {pv:Option Addr} {nv:Nat} {cv:Nat} {V:List (Int×Int×Int)} {pf:Option Addr} {nf:Nat} {cf:Nat} {F:List (Int×Int×Int)} (hnv:V.length=nv) (hnf:F.length=nf):Con Try.prog 13 [.agg #[.slice pv nv cv,.slice pf nf cf]] [] [slF (rI3 .i64) pv cv V,slF (rI3 .i64) pf cf F] (Y:=Unit) (fun y=>True) (fun y=> .int .i64 (yj V F)) (fun y=>[]) (fun y=>[]):=by
 refine zC Try.func13 rfl rfl rfl (fun c=> ?_)
 show RunC _ _ _ _ _ [(0,.agg #[.slice pv nv cv,.slice pf nf cf])] [] [slF (rI3 .i64) pv cv V,slF (rI3 .i64) pf cf F]
 refine zpa 0 rfl (fun hL0=> ?_)
 refine zpa 1 rfl (fun hL1=> ?_)
 refine zf<|za<|zZ rfl rfl (zka rfl rfl) (fun b1=> ?_)
 refine e_p (zd rfl)<|zi<|zc<|zf<|zf<|za<|e_ru (zm 0 ty32 rfl rfl (.t2 .nil))<|zia rfl rfl (.c rfl .n) ce25 (zdd (pv:=pv) (nv:=nv) (cv:=cv) (V:=V) (pf:=pf) (nf:=nf) (cf:=cf) (F:=F) (hnv:=ass) (hnf:=ass)) (.c (j:=0) rfl (.c (j:=1) rfl .n))<|e_p (zd rfl)<|zi<|zc<|zf<|za<|e_mv rfl<|e_p (zOa rfl rfl)<|zi<|zc<|zG rfl (fun hcode=> ?_) (fun hcode=> ?_)
 ·
  refine zf<|za<|e_mv rfl<|e_p (zd rfl)<|zi<|zc<|zU<|zl ?_
  exact zO Try.results13 () trivial (zx rfl) (by rw [Ms.check_bad hcode]) (ho:=oN) sN
 ·
  have hf0:=Decidable.not_not.1 hcode
  have hgood:=yq.1 hf0
  have hnv5:nv≤512:=by have:=hgood.nv;omega
  have hnf5:nf≤1024:=by have:=hgood.nf;omega
  refine zw<|zc<|zf<|za<|zwa rfl rfl (zla (κ:=Int×Int) (ν:=Bool) (fun z:Int×Int=> .agg #[.int .i64 z.1,.int .i64 z.2]) (fun z:Bool=> .bool z) (fun z=>InK .i64 z.1∧InK .i64 z.2)) (fun b2 _=> ?_)
  refine e_p (zd rfl)<|zi<|zc<|zf<|za<|e_p (zg Try.underlying32 rfl sz29 rfl rfl)<|e_ru (zb 1 ty29 rfl rfl rfl)<|e_p (zR Try.underlying29 rfl)<|zwa rfl rfl (zMb (r:=rV) (k:=nv) (x0:=(none,0,0)) (γ0:=()) Try.underlying42 inf22 rfl rfl rfl rfl om om rfl (fun g _=>by trivial) dd) (fun b3 _=> ?_)
  refine r_mem (fun w mm=>mm.rowsNew 3 (rI .i64) nv)<|e_p (zd rfl)<|zi<|zc<|zf<|zf<|za<|e_p (zg Try.underlying32 rfl sz30 rfl rfl)<|e_ru (zb 3 ty30 rfl rfl rfl)<|e_p (zR Try.underlying30 rfl)<|e_mv rfl<|zi<|zc<|zq<|zY (X:=Nat×(List ((Int×Int)×Bool))×(List (RW Int))) (fun x:Nat×(List ((Int×Int)×Bool))×(List (RW Int))=>x.1≤nf∧Ms.Seen x.2.1 (yA (F.take x.1))∧(yA (F.take x.1)).Nodup∧yu x.2.2 nv (Ms.srcs (F.take x.1))) (fun x=>[(35,.int .i64 ((x.1:Nat):Int)),(34,.int .i64 ((nf:Nat):Int)),(33,.slice pf nf cf),(5,.slice (some ⟨b3,0,none⟩) nv nv),(4,.map (some b2)),(1,.pointer (some ⟨b1,0,none⟩))]) (fun x=>[rowsA 3 (rI .i64) (x.2.2),rowA 22 rV (some ⟨b3,0,none⟩) nv (x.2.2.map ov),mapA b2 (fun z:Int×Int=> .agg #[.int .i64 z.1,.int .i64 z.2]) (fun z:Bool=> .bool z) (fun z=>InK .i64 z.1∧InK .i64 z.2) (x.2.1),boxA b1 32 [.slice pv nv cv,.slice pf nf cf]]) (fun x=>[slF (rI3 .i64) pv cv V,slF (rI3 .i64) pf cf F]) (fun x:Nat×(List ((Int×Int)×Bool))×(List (RW Int))=>nf - x.1) (0,[],(List.replicate nv (none,0,[]):List (RW Int))) (show 0≤nf∧Ms.Seen ([]) (yA (F.take 0))∧(yA (F.take 0)).Nodup∧yu (List.replicate nv (none,0,[]):List (RW Int)) nv (Ms.srcs (F.take 0)) from by exact ⟨Nat.zero_le _,Ms.Seen.nil,by simp [yA],yu.nil nv⟩) ((.e rfl cgs (.of rfl)):SubM _ _) (ho:=((.e (i:=0) rfl (by first|rfl|simp [ov]) (.e (i:=0) rfl (by first|rfl|simp [ov]) (.of [0,0] rfl))):PickO _ _ _)) ((.of [0,1] rfl):SelR _ _ _) ?_
  rintro ⟨i,sm,zs⟩ hI
  replace hI:i≤nf∧Ms.Seen sm (yA (F.take i))∧(yA (F.take i)).Nodup∧yu zs nv (Ms.srcs (F.take i)):=hI
  try dsimp only
  obtain ⟨hi,hsm,hnd,hrw⟩:=hI
  refine zf<|za<|e_p (zD rfl rfl)<|zi<|zc<|zf<|zG rfl (fun h4=> ?_) (fun h4=> ?_)
  ·
   have hat:=hgood.at (show i<F.length by omega)
   have hta:=Ms.take_all (F:=F) (show i<F.length by omega)
   have hts:=Ms.take_srcs (F:=F) (show i<F.length by omega)
   have hsl:(Ms.srcs (F.take i)).length≤3072:=by rw [Ms.srcs_len,List.length_take];omega
   have hs0:=hsm
   have hn0:=hnd
   have hr0:=hrw
   have hzl0:=hr0.len
   refine zw<|zc<|zf<|zq<|zf<|za<|e_mv rfl<|zM (x0:=(F.getD i (0,0,0))) 1 i rfl Try.underlying30 sz35 rfl rfl rfl (by first|rfl|assumption|(simp;done)|omega) rfl rfl (gD (d:=(0,0,0)) om) (fun b5 o6 hok7=> ?_)
   obtain ⟨hok7x,hok7y,hok7z⟩:=hok7
   replace hok7x:=ze.1 hok7x
   replace hok7y:=ze.1 hok7y
   replace hok7z:=ze.1 hok7z
   refine e_ru (zJ (j:=0) 0 ty35 rfl rfl rfl (.t2 (.take .nil)))<|zZ rfl rfl (zF zr35 rfl) (fun b8=> ?_)
   refine e_p (zd rfl)<|zE 0 rfl rfl rfl rfl rfl sz35 rfl (.t2 (.take .nil)) .z<|zi<|zc<|zf<|za<|e_ru (zm 0 ty35 rfl rfl (.t2 (.take .nil)))<|zia rfl rfl (.c rfl .n) ce26 (zBb (ex:=(F.getD i (0,0,0)).1) (ey:=(F.getD i (0,0,0)).2.1) (ez:=(F.getD i (0,0,0)).2.2)) (.n)<|e_mv rfl<|zi<|zc<|zq<|zeb<|zX<|zf<|za<|e_p (zD rfl rfl)<|zi<|zc<|zf<|zW rfl rfl<|zw<|zc<|zf<|zq<|zf<|za<|e_p (zga (i:=0) Try.underlying73 ty68 rfl rfl dd (.t2 .nil))<|zZ rfl rfl (zF zr68 rfl) (fun b9=> ?_)
   refine zE 0 rfl rfl rfl rfl rfl sz68 rfl (.t2 .nil) .z<|zi<|zc<|zf<|zf<|za<|e_mv rfl<|e_ru (zm 0 ty68 rfl rfl (.t2 .nil))<|e_ru (zfa (z:=false) (a0:=(((F.getD i (0,0,0)).1),((F.getD i (0,0,0)).2.1))) (v:= .bool ((mget sm (((F.getD i (0,0,0)).1),((F.getD i (0,0,0)).2.1))).getD false)) 4 rfl ky68 Try.underlying72 zr4 rfl rfl (⟨ze.2 om,ze.2 om⟩) rfl)<|zi<|zc<|zAa rfl (fun hseen=> ?_) (fun hseen=> ?_)
   ·
    have hfin:yj V F=7:=Ms.dup_at hf0 (i:=i) om (A:=yA (F.take i)) (B:=[((F.getD i (0,0,0)).2.1,(F.getD i (0,0,0)).2.2),((F.getD i (0,0,0)).2.2,(F.getD i (0,0,0)).1)]) (e:=((F.getD i (0,0,0)).1,(F.getD i (0,0,0)).2.1)) (by rw [hta] <;> simp) hs0 hseen
    refine zf<|za<|e_p (zd rfl)<|zi<|zc<|zU<|zl<|zu<|zl<|zl<|zu<|zu<|zl<|zl<|zu<|zl ?_
    exact zO Try.results13 () trivial (zx rfl) (by rw [hfin]) (ho:=oN) sN
   ·
    have hn1:=yx (e:=((F.getD i (0,0,0)).1,(F.getD i (0,0,0)).2.1)) hn0 (hs0.no hseen)
    have hs1:=hs0.step ((F.getD i (0,0,0)).1,(F.getD i (0,0,0)).2.1)
    refine zw<|zc<|zf<|za<|e_mv rfl<|e_ru (zm 0 ty68 rfl rfl (.t2 .nil))<|zna 4 rfl rfl rfl (zT (a0:=(((F.getD i (0,0,0)).1),((F.getD i (0,0,0)).2.1))) (v:=true) ky68 Try.underlying72 rfl rfl rfl (⟨ze.2 om,ze.2 om⟩)) (fun _=>(.s (.s (.s (.s .z))))) (fun _ _=> ?_)
    refine zi<|zc ?_
    obtain ⟨⟨pz0,cz0,lz0⟩,hz0⟩:∃z,(zs)[((F.getD i (0,0,0)).1).toNat]? =some z:=⟨_,List.getElem?_eq_getElem (by first|(rw [hr2.len];omega)|(rw [hr1.len];omega)|(rw [hr0.len];omega))⟩
    refine zob (fun w mm=>mm.rowsOpen 2 (((F.getD i (0,0,0)).1).toNat) rfl hz0) ?_
    try dsimp only [List.eraseIdx]
    have hlb0:lz0.length≤3075:=by have h9:=(hr0.at hz0).2;(try simp only [List.length_append,List.length_cons,List.length_nil] at h9);omega
    refine zWa (.c (i:=0) rfl (.c (i:=3) rfl (.c (i:=0) rfl (.c (i:=0) rfl (.c (i:=0) rfl (.c (i:=0) rfl (.c (i:=0) rfl .n)))))))<|zsa (OW:=[rowA 3 (rI .i64) pz0 cz0 lz0,rowA 22 rV (some ⟨b3,0,none⟩) nv (zs.map ov)]) (O:=[rowsA 3 (rI .i64) ((zs).eraseIdx (((F.getD i (0,0,0)).1).toNat)),boxA b9 68 [.int .i64 ((F.getD i (0,0,0)).1),.int .i64 ((F.getD i (0,0,0)).2.1)],boxA b8 35 [.int .i64 ((F.getD i (0,0,0)).1),.int .i64 ((F.getD i (0,0,0)).2.1),.int .i64 ((F.getD i (0,0,0)).2.2)],mapA b2 (fun z:Int×Int=> .agg #[.int .i64 z.1,.int .i64 z.2]) (fun z:Bool=> .bool z) (fun z=>InK .i64 z.1∧InK .i64 z.2) (mput sm (((F.getD i (0,0,0)).1),((F.getD i (0,0,0)).2.1)) true),boxA b1 32 [.slice pv nv cv,.slice pf nf cf]]) 10 mixed (.block (.then (.then (.block (.block (.then (.then (.block (.then .ret))))))))) kr<|e_dm 0 rfl rfl rfl<|e_pv 1 rfl rfl (zk (i:=0) Try.underlying68 sz3 rfl rfl dd rfl)<|e_u 2 rfl rfl (zb 1 ty3 rfl rfl rfl)<|e_dm 3 rfl rfl rfl<|e_pv 4 rfl rfl (zk (i:=0) Try.underlying68 sz3 rfl rfl dd rfl)<|e_uw 5 rfl rfl (zb 3 ty3 rfl rfl rfl)<|e_pv 6 rfl rfl (zN (j:=((F.getD i (0,0,0)).1).toNat) Try.underlying42 sz22 rfl rfl om om)<|zGc 7 rfl rfl kr kr kr rfl rfl (zba (x0:=(pz0,lz0.length,cz0)) (v:= .slice pz0 (lz0.length) cz0) 1 (((F.getD i (0,0,0)).1).toNat) rfl ty22 rfl rfl (by rw [List.getElem?_map,hz0];rfl) rfl) (fun _ hok10=> ?_)
    refine e_dm 8 rfl rfl rfl<|e_one 9 (zib rfl rfl rfl rfl (zt (enc:=fun z:Int=>[.int .i64 z]) (ok:=InK .i64) (h1:=fun _=>rfl) (h2:=fun _=>rfl) (k:=1) Try.underlying22 inf3 rfl dd dd dd (.c (x:=((i:Nat):Int)) rfl rfl (fun _ _=>by exact ze.2 om) .n)) (fun b11 _=> ?_))
    refine zva 0 rfl .z<|e_one 10 (zcb (A':=fun v:Option Addr×Nat=>rowA 3 (rI .i64) v.1 v.2 (lz0++([((i:Nat):Int)]))) kr rfl rfl rfl (zea 0 rfl Try.underlying22 inf3 dd rfl rfl (by first|rfl|assumption|(simp;done)|omega) rfl (by first|rfl|assumption|(simp;done)|omega) om om) ?_)
    rintro ⟨p12,c13⟩ -
    dsimp only [aq,nq,cq]
    refine e_pv 11 rfl rfl (zN (j:=((F.getD i (0,0,0)).1).toNat) Try.underlying42 sz22 rfl rfl om om)<|zNb (zK (i:=1) rfl)<|e_one 12 (zcb (A':=fun _=>rowA 22 rV (some ⟨b3,0,none⟩) nv ((zs.map ov).set (((F.getD i (0,0,0)).1).toNat) (p12,lz0.length+1,c13))) kr rfl rfl rfl (zda (j:=((F.getD i (0,0,0)).1).toNat) (x0:=(p12,lz0.length+1,c13)) (γ0:=()) rfl rfl (by first|omega|(rw [List.length_map];omega)|(simp only [List.length_set];omega)|(simp;done)|(simp;omega)) rfl rfl sz22 (fun _ _=>by trivial)) (fun _ _=> ?_))
    refine zra kr<|zB<|zc<|zob (fun w mm=>mm.rowsClose (zs:=zs) 1 2 (((F.getD i (0,0,0)).1).toNat) rfl rfl (by first|(rw [hr2.len];omega)|(rw [hr1.len];omega)|(rw [hr0.len];omega))) ?_
    try dsimp only [List.eraseIdx]
    obtain ⟨zq1,hzq1⟩:∃z,z=(zs).set (((F.getD i (0,0,0)).1).toNat) (p12,c13,(lz0++([((i:Nat):Int)]))):=⟨_,rfl⟩
    rw [← hzq1,show ((zs.map ov).set (((F.getD i (0,0,0)).1).toNat) (p12,lz0.length+1,c13))=(zq1).map ov by rw [hzq1,List.map_set];simp [ov]]
    have hr1:=hr0.step (w:=(F.getD i (0,0,0)).1) (i:=(i:Int)) om (p':=p12) (c':=c13) hz0
    rw [← hzq1] at hr1
    have hzl1:=hr1.len
    refine za<|e_p (zv (z:=1) rfl rfl (w64 dd))<|e_mv rfl<|zi<|zja<|zX<|zf<|za<|e_p (zD rfl rfl)<|zi<|zc<|zf<|zW rfl rfl<|zw<|zc<|zf<|zq<|zf<|za<|e_p (zga (i:=1) Try.underlying73 ty68 rfl rfl dd (.s2 (.t2 .nil)))<|zZ rfl rfl (zF zr68 rfl) (fun b14=> ?_)
    refine zE 0 rfl rfl rfl rfl rfl sz68 rfl (.t2 .nil) .z<|zi<|zc<|zf<|zf<|za<|e_mv rfl<|e_ru (zm 0 ty68 rfl rfl (.t2 .nil))<|e_ru (zfa (z:=false) (a0:=(((F.getD i (0,0,0)).2.1),((F.getD i (0,0,0)).2.2))) (v:= .bool ((mget (mput sm (((F.getD i (0,0,0)).1),((F.getD i (0,0,0)).2.1)) true) (((F.getD i (0,0,0)).2.1),((F.getD i (0,0,0)).2.2))).getD false)) 6 rfl ky68 Try.underlying72 zr4 rfl rfl (⟨ze.2 om,ze.2 om⟩) rfl)<|zi<|zc<|zAa rfl (fun hseen=> ?_) (fun hseen=> ?_)
    ·
     have hfin:yj V F=7:=Ms.dup_at hf0 (i:=i) om (A:=yA (F.take i)++[((F.getD i (0,0,0)).1,(F.getD i (0,0,0)).2.1)]) (B:=[((F.getD i (0,0,0)).2.2,(F.getD i (0,0,0)).1)]) (e:=((F.getD i (0,0,0)).2.1,(F.getD i (0,0,0)).2.2)) (by rw [hta] <;> simp) hs1 hseen
     refine zf<|za<|e_p (zd rfl)<|zi<|zc<|zU<|zl<|zu<|zl<|zl<|zu<|zu<|zl<|zl<|zu<|zl ?_
     exact zO Try.results13 () trivial (zx rfl) (by rw [hfin]) (ho:=oN) sN
    ·
     have hn2:=yx (e:=((F.getD i (0,0,0)).2.1,(F.getD i (0,0,0)).2.2)) hn1 (hs1.no hseen)
     have hs2:=hs1.step ((F.getD i (0,0,0)).2.1,(F.getD i (0,0,0)).2.2)
     refine zw<|zc<|zf<|za<|e_mv rfl<|e_ru (zm 0 ty68 rfl rfl (.t2 .nil))<|zna 6 rfl rfl rfl (zT (a0:=(((F.getD i (0,0,0)).2.1),((F.getD i (0,0,0)).2.2))) (v:=true) ky68 Try.underlying72 rfl rfl rfl (⟨ze.2 om,ze.2 om⟩)) (fun _=>(.s (.s (.s (.s (.s (.s .z))))))) (fun _ _=> ?_)
     refine zi<|zc ?_
     obtain ⟨⟨pz1,cz1,lz1⟩,hz1⟩:∃z,(zq1)[((F.getD i (0,0,0)).2.1).toNat]? =some z:=⟨_,List.getElem?_eq_getElem (by first|(rw [hr2.len];omega)|(rw [hr1.len];omega)|(rw [hr0.len];omega))⟩
     refine zob (fun w mm=>mm.rowsOpen 1 (((F.getD i (0,0,0)).2.1).toNat) rfl hz1) ?_
     try dsimp only [List.eraseIdx]
     have hlb1:lz1.length≤3075:=by have h9:=(hr1.at hz1).2;(try simp only [List.length_append,List.length_cons,List.length_nil] at h9);omega
     refine zWa (.c (i:=0) rfl (.c (i:=2) rfl (.c (i:=0) rfl (.c (i:=0) rfl (.c (i:=0) rfl (.c (i:=0) rfl (.c (i:=0) rfl (.c (i:=0) rfl (.c (i:=0) rfl .n)))))))))<|zsa (OW:=[rowA 3 (rI .i64) pz1 cz1 lz1,rowA 22 rV (some ⟨b3,0,none⟩) nv ((zq1).map ov)]) (O:=[rowsA 3 (rI .i64) ((zq1).eraseIdx (((F.getD i (0,0,0)).2.1).toNat)),boxA b14 68 [.int .i64 ((F.getD i (0,0,0)).2.1),.int .i64 ((F.getD i (0,0,0)).2.2)],emA,boxA b9 68 [.int .i64 ((F.getD i (0,0,0)).1),.int .i64 ((F.getD i (0,0,0)).2.1)],boxA b8 35 [.int .i64 ((F.getD i (0,0,0)).1),.int .i64 ((F.getD i (0,0,0)).2.1),.int .i64 ((F.getD i (0,0,0)).2.2)],mapA b2 (fun z:Int×Int=> .agg #[.int .i64 z.1,.int .i64 z.2]) (fun z:Bool=> .bool z) (fun z=>InK .i64 z.1∧InK .i64 z.2) (mput (mput sm (((F.getD i (0,0,0)).1),((F.getD i (0,0,0)).2.1)) true) (((F.getD i (0,0,0)).2.1),((F.getD i (0,0,0)).2.2)) true),boxA b1 32 [.slice pv nv cv,.slice pf nf cf]]) 10 mixed (.block (.then (.then (.block (.block (.then (.then (.block (.then .ret))))))))) kr<|e_dm 0 rfl rfl rfl<|e_pv 1 rfl rfl (zk (i:=0) Try.underlying68 sz3 rfl rfl dd rfl)<|e_u 2 rfl rfl (zb 1 ty3 rfl rfl rfl)<|e_dm 3 rfl rfl rfl<|e_pv 4 rfl rfl (zk (i:=0) Try.underlying68 sz3 rfl rfl dd rfl)<|e_uw 5 rfl rfl (zb 3 ty3 rfl rfl rfl)<|e_pv 6 rfl rfl (zN (j:=((F.getD i (0,0,0)).2.1).toNat) Try.underlying42 sz22 rfl rfl om om)<|zGc 7 rfl rfl kr kr kr rfl rfl (zba (x0:=(pz1,lz1.length,cz1)) (v:= .slice pz1 (lz1.length) cz1) 1 (((F.getD i (0,0,0)).2.1).toNat) rfl ty22 rfl rfl (by rw [List.getElem?_map,hz1];rfl) rfl) (fun _ hok15=> ?_)
     refine e_dm 8 rfl rfl rfl<|e_one 9 (zib rfl rfl rfl rfl (zt (enc:=fun z:Int=>[.int .i64 z]) (ok:=InK .i64) (h1:=fun _=>rfl) (h2:=fun _=>rfl) (k:=1) Try.underlying22 inf3 rfl dd dd dd (.c (x:=((i:Nat):Int)) rfl rfl (fun _ _=>by exact ze.2 om) .n)) (fun b16 _=> ?_))
     refine zva 0 rfl .z<|e_one 10 (zcb (A':=fun v:Option Addr×Nat=>rowA 3 (rI .i64) v.1 v.2 (lz1++([((i:Nat):Int)]))) kr rfl rfl rfl (zea 0 rfl Try.underlying22 inf3 dd rfl rfl (by first|rfl|assumption|(simp;done)|omega) rfl (by first|rfl|assumption|(simp;done)|omega) om om) ?_)
     rintro ⟨p17,c18⟩ -
     dsimp only [aq,nq,cq]
     refine e_pv 11 rfl rfl (zN (j:=((F.getD i (0,0,0)).2.1).toNat) Try.underlying42 sz22 rfl rfl om om)<|zNb (zK (i:=1) rfl)<|e_one 12 (zcb (A':=fun _=>rowA 22 rV (some ⟨b3,0,none⟩) nv (((zq1).map ov).set (((F.getD i (0,0,0)).2.1).toNat) (p17,lz1.length+1,c18))) kr rfl rfl rfl (zda (j:=((F.getD i (0,0,0)).2.1).toNat) (x0:=(p17,lz1.length+1,c18)) (γ0:=()) rfl rfl (by first|omega|(rw [List.length_map];omega)|(simp only [List.length_set];omega)|(simp;done)|(simp;omega)) rfl rfl sz22 (fun _ _=>by trivial)) (fun _ _=> ?_))
     refine zra kr<|zB<|zc<|zob (fun w mm=>mm.rowsClose (zs:=zq1) 1 2 (((F.getD i (0,0,0)).2.1).toNat) rfl rfl (by first|(rw [hr2.len];omega)|(rw [hr1.len];omega)|(rw [hr0.len];omega))) ?_
     try dsimp only [List.eraseIdx]
     obtain ⟨zq2,hzq2⟩:∃z,z=(zq1).set (((F.getD i (0,0,0)).2.1).toNat) (p17,c18,(lz1++([((i:Nat):Int)]))):=⟨_,rfl⟩
     rw [← hzq2,show (((zq1).map ov).set (((F.getD i (0,0,0)).2.1).toNat) (p17,lz1.length+1,c18))=(zq2).map ov by rw [hzq2,List.map_set];simp [ov]]
     have hr2:=hr1.step (w:=(F.getD i (0,0,0)).2.1) (i:=(i:Int)) om (p':=p17) (c':=c18) hz1
     rw [← hzq2] at hr2
     have hzl2:=hr2.len
     refine za<|e_p (zv (z:=2) rfl rfl (w64 dd))<|e_mv rfl<|zi<|zja<|zX<|zf<|za<|e_p (zD rfl rfl)<|zi<|zc<|zf<|zW rfl rfl<|zw<|zc<|zf<|zq<|zf<|za<|e_p (zga (i:=2) Try.underlying73 ty68 rfl rfl dd (.s4 (.t2 .nil)))<|zZ rfl rfl (zF zr68 rfl) (fun b19=> ?_)
     refine zE 0 rfl rfl rfl rfl rfl sz68 rfl (.t2 .nil) .z<|zi<|zc<|zf<|zf<|za<|e_mv rfl<|e_ru (zm 0 ty68 rfl rfl (.t2 .nil))<|e_ru (zfa (z:=false) (a0:=(((F.getD i (0,0,0)).2.2),((F.getD i (0,0,0)).1))) (v:= .bool ((mget (mput (mput sm (((F.getD i (0,0,0)).1),((F.getD i (0,0,0)).2.1)) true) (((F.getD i (0,0,0)).2.1),((F.getD i (0,0,0)).2.2)) true) (((F.getD i (0,0,0)).2.2),((F.getD i (0,0,0)).1))).getD false)) 8 rfl ky68 Try.underlying72 zr4 rfl rfl (⟨ze.2 om,ze.2 om⟩) rfl)<|zi<|zc<|zAa rfl (fun hseen=> ?_) (fun hseen=> ?_)
     ·
      have hfin:yj V F=7:=Ms.dup_at hf0 (i:=i) om (A:=yA (F.take i)++[((F.getD i (0,0,0)).1,(F.getD i (0,0,0)).2.1)]++[((F.getD i (0,0,0)).2.1,(F.getD i (0,0,0)).2.2)]) (B:=[]) (e:=((F.getD i (0,0,0)).2.2,(F.getD i (0,0,0)).1)) (by rw [hta] <;> simp) hs2 hseen
      refine zf<|za<|e_p (zd rfl)<|zi<|zc<|zU<|zl<|zu<|zl<|zl<|zu<|zu<|zl<|zl<|zu<|zl ?_
      exact zO Try.results13 () trivial (zx rfl) (by rw [hfin]) (ho:=oN) sN
     ·
      have hn3:=yx (e:=((F.getD i (0,0,0)).2.2,(F.getD i (0,0,0)).1)) hn2 (hs2.no hseen)
      have hs3:=hs2.step ((F.getD i (0,0,0)).2.2,(F.getD i (0,0,0)).1)
      refine zw<|zc<|zf<|za<|e_mv rfl<|e_ru (zm 0 ty68 rfl rfl (.t2 .nil))<|zna 8 rfl rfl rfl (zT (a0:=(((F.getD i (0,0,0)).2.2),((F.getD i (0,0,0)).1))) (v:=true) ky68 Try.underlying72 rfl rfl rfl (⟨ze.2 om,ze.2 om⟩)) (fun _=>(.s (.s (.s (.s (.s (.s (.s (.s .z))))))))) (fun _ _=> ?_)
      refine zi<|zc ?_
      obtain ⟨⟨pz2,cz2,lz2⟩,hz2⟩:∃z,(zq2)[((F.getD i (0,0,0)).2.2).toNat]? =some z:=⟨_,List.getElem?_eq_getElem (by first|(rw [hr2.len];omega)|(rw [hr1.len];omega)|(rw [hr0.len];omega))⟩
      refine zob (fun w mm=>mm.rowsOpen 1 (((F.getD i (0,0,0)).2.2).toNat) rfl hz2) ?_
      try dsimp only [List.eraseIdx]
      have hlb2:lz2.length≤3075:=by have h9:=(hr2.at hz2).2;(try simp only [List.length_append,List.length_cons,List.length_nil] at h9);omega
      refine zWa (.c (i:=0) rfl (.c (i:=2) rfl (.c (i:=0) rfl (.c (i:=0) rfl (.c (i:=0) rfl (.c (i:=0) rfl (.c (i:=0) rfl (.c (i:=0) rfl (.c (i:=0) rfl (.c (i:=0) rfl (.c (i:=0) rfl .n)))))))))))<|zsa (OW:=[rowA 3 (rI .i64) pz2 cz2 lz2,rowA 22 rV (some ⟨b3,0,none⟩) nv ((zq2).map ov)]) (O:=[rowsA 3 (rI .i64) ((zq2).eraseIdx (((F.getD i (0,0,0)).2.2).toNat)),boxA b19 68 [.int .i64 ((F.getD i (0,0,0)).2.2),.int .i64 ((F.getD i (0,0,0)).1)],emA,boxA b14 68 [.int .i64 ((F.getD i (0,0,0)).2.1),.int .i64 ((F.getD i (0,0,0)).2.2)],emA,boxA b9 68 [.int .i64 ((F.getD i (0,0,0)).1),.int .i64 ((F.getD i (0,0,0)).2.1)],boxA b8 35 [.int .i64 ((F.getD i (0,0,0)).1),.int .i64 ((F.getD i (0,0,0)).2.1),.int .i64 ((F.getD i (0,0,0)).2.2)],mapA b2 (fun z:Int×Int=> .agg #[.int .i64 z.1,.int .i64 z.2]) (fun z:Bool=> .bool z) (fun z=>InK .i64 z.1∧InK .i64 z.2) (mput (mput (mput sm (((F.getD i (0,0,0)).1),((F.getD i (0,0,0)).2.1)) true) (((F.getD i (0,0,0)).2.1),((F.getD i (0,0,0)).2.2)) true) (((F.getD i (0,0,0)).2.2),((F.getD i (0,0,0)).1)) true),boxA b1 32 [.slice pv nv cv,.slice pf nf cf]]) 10 mixed (.block (.then (.then (.block (.block (.then (.then (.block (.then .ret))))))))) kr<|e_dm 0 rfl rfl rfl<|e_pv 1 rfl rfl (zk (i:=0) Try.underlying68 sz3 rfl rfl dd rfl)<|e_u 2 rfl rfl (zb 1 ty3 rfl rfl rfl)<|e_dm 3 rfl rfl rfl<|e_pv 4 rfl rfl (zk (i:=0) Try.underlying68 sz3 rfl rfl dd rfl)<|e_uw 5 rfl rfl (zb 3 ty3 rfl rfl rfl)<|e_pv 6 rfl rfl (zN (j:=((F.getD i (0,0,0)).2.2).toNat) Try.underlying42 sz22 rfl rfl om om)<|zGc 7 rfl rfl kr kr kr rfl rfl (zba (x0:=(pz2,lz2.length,cz2)) (v:= .slice pz2 (lz2.length) cz2) 1 (((F.getD i (0,0,0)).2.2).toNat) rfl ty22 rfl rfl (by rw [List.getElem?_map,hz2];rfl) rfl) (fun _ hok20=> ?_)
      refine e_dm 8 rfl rfl rfl<|e_one 9 (zib rfl rfl rfl rfl (zt (enc:=fun z:Int=>[.int .i64 z]) (ok:=InK .i64) (h1:=fun _=>rfl) (h2:=fun _=>rfl) (k:=1) Try.underlying22 inf3 rfl dd dd dd (.c (x:=((i:Nat):Int)) rfl rfl (fun _ _=>by exact ze.2 om) .n)) (fun b21 _=> ?_))
      refine zva 0 rfl .z<|e_one 10 (zcb (A':=fun v:Option Addr×Nat=>rowA 3 (rI .i64) v.1 v.2 (lz2++([((i:Nat):Int)]))) kr rfl rfl rfl (zea 0 rfl Try.underlying22 inf3 dd rfl rfl (by first|rfl|assumption|(simp;done)|omega) rfl (by first|rfl|assumption|(simp;done)|omega) om om) ?_)
      rintro ⟨p22,c23⟩ -
      dsimp only [aq,nq,cq]
      refine e_pv 11 rfl rfl (zN (j:=((F.getD i (0,0,0)).2.2).toNat) Try.underlying42 sz22 rfl rfl om om)<|zNb (zK (i:=1) rfl)<|e_one 12 (zcb (A':=fun _=>rowA 22 rV (some ⟨b3,0,none⟩) nv (((zq2).map ov).set (((F.getD i (0,0,0)).2.2).toNat) (p22,lz2.length+1,c23))) kr rfl rfl rfl (zda (j:=((F.getD i (0,0,0)).2.2).toNat) (x0:=(p22,lz2.length+1,c23)) (γ0:=()) rfl rfl (by first|omega|(rw [List.length_map];omega)|(simp only [List.length_set];omega)|(simp;done)|(simp;omega)) rfl rfl sz22 (fun _ _=>by trivial)) (fun _ _=> ?_))
      refine zra kr<|zB<|zc<|zob (fun w mm=>mm.rowsClose (zs:=zq2) 1 2 (((F.getD i (0,0,0)).2.2).toNat) rfl rfl (by first|(rw [hr2.len];omega)|(rw [hr1.len];omega)|(rw [hr0.len];omega))) ?_
      try dsimp only [List.eraseIdx]
      obtain ⟨zq3,hzq3⟩:∃z,z=(zq2).set (((F.getD i (0,0,0)).2.2).toNat) (p22,c23,(lz2++([((i:Nat):Int)]))):=⟨_,rfl⟩
      rw [← hzq3,show (((zq2).map ov).set (((F.getD i (0,0,0)).2.2).toNat) (p22,lz2.length+1,c23))=(zq3).map ov by rw [hzq3,List.map_set];simp [ov]]
      have hr3:=hr2.step (w:=(F.getD i (0,0,0)).2.2) (i:=(i:Int)) om (p':=p22) (c':=c23) hz2
      rw [← hzq3] at hr3
      have hzl3:=hr3.len
      refine za<|e_p (zv (z:=3) rfl rfl (w64 dd))<|e_mv rfl<|zi<|zja<|zX<|zf<|za<|e_p (zD rfl rfl)<|zi<|zc<|zf<|zEa rfl rfl<|zP<|zj<|zj<|zo<|zB<|zc<|za<|e_p (zv (z:=(((i+1):Nat):Int)) rfl rfl (w64 om))<|e_mv rfl<|zi<|zQ ((i+1),mput (mput (mput sm (((F.getD i (0,0,0)).1),((F.getD i (0,0,0)).2.1)) true) (((F.getD i (0,0,0)).2.1),((F.getD i (0,0,0)).2.2)) true) (((F.getD i (0,0,0)).2.2),((F.getD i (0,0,0)).1)) true,zq3) (show (i+1)≤nf∧Ms.Seen (mput (mput (mput sm (((F.getD i (0,0,0)).1),((F.getD i (0,0,0)).2.1)) true) (((F.getD i (0,0,0)).2.1),((F.getD i (0,0,0)).2.2)) true) (((F.getD i (0,0,0)).2.2),((F.getD i (0,0,0)).1)) true) (yA (F.take (i+1)))∧(yA (F.take (i+1))).Nodup∧yu zq3 nv (Ms.srcs (F.take (i+1))) from by exact ⟨by omega,by rw [hta];exact hs3,by rw [hta];exact hn3,by rw [hts];exact hr3⟩) (by show nf - (i+1)<nf - i;omega) (mR rfl) (ho:=((.c (i:=0) rfl (.e (i:=0) rfl cgs (.of [7,7] rfl))):PickO _ _ _)) ((.of [4,5] rfl):SelR _ _ _)
  ·
   have hrwF:yu zs nv (Ms.srcs F):=by have:=hrw;rwa [List.take_of_length_le om] at this
   have hndF:(yA F).Nodup:=by have:=hnd;rwa [List.take_of_length_le om] at this
   refine zP<|zj<|zj<|zo<|zc<|zf<|zf<|zob (fun w mm=>mm.rowsFreeze 1 0 rfl rfl) ?_
   dsimp only [List.set]
   rw [show (zs).map (fun z:RW Int=>z.2.2)=((List.range nv).map (fun v:Nat=>yc F (v:Int))) by exact hrwF.lists]
   refine za<|e_mv rfl<|e_p (zR Try.underlying42 rfl)<|e_mv rfl<|zi<|zc<|zq<|zY (X:=Nat) (fun x:Nat=>x≤nv∧∀w:Nat,w<x→Ms.starB F (w:Int) (yc F (w:Int))=true) (fun x=>[(66,.int .i64 ((x:Nat):Int)),(65,.int .i64 ((nv:Nat):Int)),(64,.slice (some ⟨b3,0,none⟩) nv nv),(1,.pointer (some ⟨b1,0,none⟩))]) (fun x=>[boxA b1 32 [.slice pv nv cv,.slice pf nf cf]]) (fun x=>[slF (rS (rI .i64)) (some ⟨b3,0,none⟩) nv ((List.range nv).map (fun x:Nat=>yc F (x:Int))),slF (rI3 .i64) pv cv V,slF (rI3 .i64) pf cf F]) (fun x:Nat=>nv - x) 0 (show 0≤nv∧∀w:Nat,w<0→Ms.starB F (w:Int) (yc F (w:Int))=true from by exact ⟨Nat.zero_le _,fun w h=>by omega⟩) ((.e rfl cgs (.of rfl)):SubM _ _) (ho:=((.c (i:=3) rfl .n):PickO _ _ _)) ((.e (j:=0) rfl (by first|rfl|simp_all) (.of [1,2] rfl)):SelR _ _ _) ?_
   rintro v hI
   replace hI:v≤nv∧∀w:Nat,w<v→Ms.starB F (w:Int) (yc F (w:Int))=true:=hI
   try dsimp only
   obtain ⟨hv,hst⟩:=hI
   have hal:=Ms.at_len F (v:Int)
   refine zf<|za<|e_p (zD rfl rfl)<|zi<|zc<|zf<|zG rfl (fun h24=> ?_) (fun h24=> ?_)
   ·
    refine zw<|zc<|zf<|zq<|zf<|za<|e_mv rfl<|r_vl rfl rfl (zLb (x0:=(((List.range nv).map (fun v:Nat=>yc F (v:Int))).getD v [])) 0 v rfl Try.underlying42 sz22 rfl (by first|rfl|assumption|(simp;done)|omega) rfl rfl (gD (d:=[]) (by simp;omega))) ?_
    rintro ⟨b25,o26,p27,c28⟩ -
    dsimp only [aq,nq,cq]
    refine e_ru (zp (j:=0) 0 ty22 rfl rfl rfl rfl) ?_
    have e29:(((List.range nv).map (fun v:Nat=>yc F (v:Int))).getD v [])=(yc F (v:Int)):=by exact Ms.rows_get om
    rw [e29]
    refine e_p (zd rfl)<|e_p (zd rfl)<|zi<|zc<|zf<|za<|zwa rfl rfl (zla (κ:=Int) (ν:=Int) (fun z:Int=> .int .i64 z) (fun z:Int=> .int .i64 z) (InK .i64)) (fun b30 _=> ?_)
    refine e_p (zd rfl)<|zi<|zc<|zf<|za<|zwa rfl rfl (zla (κ:=Int) (ν:=Int) (fun z:Int=> .int .i64 z) (fun z:Int=> .int .i64 z) (InK .i64)) (fun b31 _=> ?_)
    refine e_p (zd rfl)<|zi<|zc<|zf<|zf<|za<|e_mv rfl<|e_p (zR Try.underlying22 rfl)<|e_mv rfl<|zi<|zc<|zq<|zY (X:=Nat×(List (Int×Int))×(List (Int×Int))) (fun x:Nat×(List (Int×Int))×(List (Int×Int))=>x.1≤(yc F (v:Int)).length∧yh (yf F (v:Int) ((yc F (v:Int)).take x.1)) x.2.1 x.2.2) (fun x=>[(75,.int .i64 ((x.1:Nat):Int)),(74,.int .i64 (((yc F (v:Int)).length:Nat):Int)),(73,.slice p27 ((yc F (v:Int)).length) c28),(13,.map (some b31)),(12,.map (some b30)),(11,.slice p27 ((yc F (v:Int)).length) c28),(10,.int .i64 ((v:Nat):Int)),(66,.int .i64 ((v:Nat):Int)),(65,.int .i64 ((nv:Nat):Int)),(64,.slice (some ⟨b3,0,none⟩) nv nv),(1,.pointer (some ⟨b1,0,none⟩))]) (fun x=>[mapA b31 (fun z:Int=> .int .i64 z) (fun z:Int=> .int .i64 z) (InK .i64) (x.2.2),mapA b30 (fun z:Int=> .int .i64 z) (fun z:Int=> .int .i64 z) (InK .i64) (x.2.1),boxA b1 32 [.slice pv nv cv,.slice pf nf cf]]) (fun x=>[atF b25 o26 [.slice p27 ((yc F (v:Int)).length) c28],slF (rI .i64) p27 c28 (yc F (v:Int)),slF (rS (rI .i64)) (some ⟨b3,0,none⟩) nv ((List.range nv).map (fun v:Nat=>yc F (v:Int))),slF (rI3 .i64) pv cv V,slF (rI3 .i64) pf cf F]) (fun x:Nat×(List (Int×Int))×(List (Int×Int))=>(yc F (v:Int)).length - x.1) (0,[],[]) (show 0≤(yc F (v:Int)).length∧yh (yf F (v:Int) ((yc F (v:Int)).take 0)) ([]) ([]) from by exact ⟨Nat.zero_le _,yh.nil⟩) ((.e rfl cgs (.of rfl)):SubM _ _) (ho:=((.of [0,0,0] rfl):PickO _ _ _)) ((.of [0,1,2,3,4] rfl):SelR _ _ _) ?_
    rintro ⟨k,u,oth⟩ hJ
    replace hJ:k≤(yc F (v:Int)).length∧yh (yf F (v:Int) ((yc F (v:Int)).take k)) u oth:=hJ
    try dsimp only
    obtain ⟨hk,hu⟩:=hJ
    refine zf<|za<|e_p (zD rfl rfl)<|zi<|zc<|zf<|zG rfl (fun h32=> ?_) (fun h32=> ?_)
    ·
     have hag:=Ms.at_getD (F:=F) (v:=(v:Int)) (j:=k) om
     have hag2:0≤(yc F (v:Int)).getD k 0∧(yc F (v:Int)).getD k 0≤1099511627776:=by omega
     have hatf:=hgood.at (i:=((yc F (v:Int)).getD k 0).toNat) om
     refine zw<|zc<|zf<|zq<|zf<|za<|zM (x0:=((yc F (v:Int)).getD k 0)) 1 k rfl Try.underlying22 sz3 rfl rfl rfl (by first|rfl|assumption|(simp;done)|omega) rfl rfl (gD (d:=0) om) (fun b33 o34 hok35=> ?_)
     replace hok35:=ze.1 hok35
     refine e_ru (zp (j:=0) 0 ty3 rfl rfl rfl rfl)<|e_p (zd rfl)<|zi<|zc<|zf<|za<|e_p (zg Try.underlying32 rfl sz30 rfl rfl)<|e_ru (zb 2 ty30 rfl rfl rfl)<|e_mv rfl<|zM (x0:=(F.getD (((yc F (v:Int)).getD k 0).toNat) (0,0,0))) 5 (((yc F (v:Int)).getD k 0).toNat) rfl Try.underlying30 sz35 rfl rfl rfl (by first|rfl|assumption|(simp;done)|omega) rfl om (gD (d:=(0,0,0)) om) (fun b36 o37 hok38=> ?_)
     obtain ⟨hok38x,hok38y,hok38z⟩:=hok38
     replace hok38x:=ze.1 hok38x
     replace hok38y:=ze.1 hok38y
     replace hok38z:=ze.1 hok38z
     refine e_ru (zJ (j:=0) 0 ty35 rfl rfl rfl (.t2 (.take .nil)))<|e_mv rfl<|zi<|zc<|zq<|zeb<|zX<|zf<|za<|e_p (zD rfl rfl)<|zi<|zc<|zf<|zW rfl rfl<|zw<|zc<|zJa (X:=(List (Int×Int))×(List (Int×Int))) (fun x=>yh (yf F (v:Int) ((yc F (v:Int)).take k)++yg (v:Int) ((yc F (v:Int)).getD k 0) (F.getD ((yc F (v:Int)).getD k 0).toNat (0,0,0)).1) x.1 x.2) (fun x=>[(85,.bool true),(84,.int .i64 0),(83,.agg #[.int .i64 ((F.getD (((yc F (v:Int)).getD k 0).toNat) (0,0,0)).1),.int .i64 ((F.getD (((yc F (v:Int)).getD k 0).toNat) (0,0,0)).2.1),.int .i64 ((F.getD (((yc F (v:Int)).getD k 0).toNat) (0,0,0)).2.2)]),(15,.int .i64 ((yc F (v:Int)).getD k 0)),(75,.int .i64 ((k:Nat):Int)),(74,.int .i64 (((yc F (v:Int)).length:Nat):Int)),(73,.slice p27 ((yc F (v:Int)).length) c28),(13,.map (some b31)),(12,.map (some b30)),(11,.slice p27 ((yc F (v:Int)).length) c28),(10,.int .i64 ((v:Nat):Int)),(66,.int .i64 ((v:Nat):Int)),(65,.int .i64 ((nv:Nat):Int)),(64,.slice (some ⟨b3,0,none⟩) nv nv),(1,.pointer (some ⟨b1,0,none⟩))]) (fun x=>[mapA b31 (fun z:Int=> .int .i64 z) (fun z:Int=> .int .i64 z) (InK .i64) (x.2),mapA b30 (fun z:Int=> .int .i64 z) (fun z:Int=> .int .i64 z) (InK .i64) (x.1),boxA b1 32 [.slice pv nv cv,.slice pf nf cf]]) (fun x=>[atF b36 o37 [.int .i64 ((F.getD (((yc F (v:Int)).getD k 0).toNat) (0,0,0)).1),.int .i64 ((F.getD (((yc F (v:Int)).getD k 0).toNat) (0,0,0)).2.1),.int .i64 ((F.getD (((yc F (v:Int)).getD k 0).toNat) (0,0,0)).2.2)],atF b33 o34 [.int .i64 ((yc F (v:Int)).getD k 0)],atF b25 o26 [.slice p27 ((yc F (v:Int)).length) c28],slF (rI .i64) p27 c28 (yc F (v:Int)),slF (rS (rI .i64)) (some ⟨b3,0,none⟩) nv ((List.range nv).map (fun v:Nat=>yc F (v:Int))),slF (rI3 .i64) pv cv V,slF (rI3 .i64) pf cf F]) ?_ ?_
     ·
      refine zq<|zf<|za<|e_p (zha (i:=0) Try.underlying35 ty3 rfl rfl dd rfl)<|e_p (zd rfl)<|zi<|zc<|zf<|zf<|za<|e_mv rfl<|e_mv rfl<|e_p (zya rfl rfl)<|zi<|zc<|zG rfl (fun hwv=> ?_) (fun hwv=> ?_)
      ·
       refine zP<|zj<|zo ?_
       exact zS (u,oth) (show yh (yf F (v:Int) ((yc F (v:Int)).take k)++yg (v:Int) ((yc F (v:Int)).getD k 0) (F.getD ((yc F (v:Int)).getD k 0).toNat (0,0,0)).1) u oth from by exact hu.skip hwv) (mR rfl) (ho:=((.of [0,0,0] rfl):PickO _ _ _)) ((.of [0,1,2,3,4,5,6] rfl):SelR _ _ _)
      ·
       refine zw<|zc<|zf<|zf<|za<|e_mv rfl<|e_mv rfl<|e_ru (zKa (z:=0) (a0:=(F.getD (((yc F (v:Int)).getD k 0).toNat) (0,0,0)).1) (v:= .int .i64 ((mget oth ((F.getD (((yc F (v:Int)).getD k 0).toNat) (0,0,0)).1)).getD 0)) 0 rfl ky3 Try.underlying65 zr3 rfl rfl (ze.2 om) rfl)<|e_mv rfl<|e_p (zy rfl rfl)<|e_p (zy rfl rfl)<|e_p (zd rfl)<|e_p (zd rfl)<|zi<|zc<|zf<|za<|e_mv rfl<|zi<|zc<|zAa rfl (fun hok=> ?_) (fun hok=> ?_)
       ·
        have hkp:=hu.kpos hok
        refine za<|e_mv rfl<|e_mv rfl<|e_mv rfl<|zWb (zK (i:=1) rfl)<|zfb (A:=[mapA b30 (fun z:Int=> .int .i64 z) (fun z:Int=> .int .i64 z) (InK .i64) u]) (F:=[mapA b31 (fun z:Int=> .int .i64 z) (fun z:Int=> .int .i64 z) (InK .i64) oth,boxA b1 32 [.slice pv nv cv,.slice pf nf cf]]) (first:=[]) (cap:=[]) rfl rfl rfl (.c rfl (.c rfl (.c rfl .n))) ce23 (zub (b:=b30) (U:=u) (i0:=((yc F (v:Int)).getD k 0)) (k0:=((mget oth ((F.getD (((yc F (v:Int)).getD k 0).toNat) (0,0,0)).1)).getD 0)) (hU:=by first|rfl|assumption|exact hu.ok|exact huF.ok|omega|(simp;done)|(simp;omega)) (hi0:=by first|rfl|assumption|exact hu.ok|exact huF.ok|omega|(simp;done)|(simp;omega)) (hk0:=by first|rfl|assumption|exact hu.ok|exact huF.ok|omega|(simp;done)|(simp;omega))) (.n) ?_
        rintro ⟨⟩ -
        dsimp only [aq,nq,cq]
        refine zi<|zc<|za<|e_mv rfl<|e_mv rfl<|e_mv rfl<|zna 1 rfl rfl rfl (zT (a0:=(F.getD (((yc F (v:Int)).getD k 0).toNat) (0,0,0)).1) (v:=((yc F (v:Int)).getD k 0)) ky3 Try.underlying65 rfl rfl rfl (ze.2 om)) (fun _=>(.s .z)) (fun _ _=> ?_)
        refine zi<|zB ?_
        exact zS (yp u ((yc F (v:Int)).getD k 0) ((mget oth ((F.getD (((yc F (v:Int)).getD k 0).toNat) (0,0,0)).1)).getD 0),mput oth ((F.getD (((yc F (v:Int)).getD k 0).toNat) (0,0,0)).1) ((yc F (v:Int)).getD k 0)) (show yh (yf F (v:Int) ((yc F (v:Int)).take k)++yg (v:Int) ((yc F (v:Int)).getD k 0) (F.getD ((yc F (v:Int)).getD k 0).toNat (0,0,0)).1) (yp u ((yc F (v:Int)).getD k 0) ((mget oth ((F.getD (((yc F (v:Int)).getD k 0).toNat) (0,0,0)).1)).getD 0)) (mput oth ((F.getD (((yc F (v:Int)).getD k 0).toNat) (0,0,0)).1) ((yc F (v:Int)).getD k 0)) from by exact hu.hit hag2 hwv hok) (mR rfl) (ho:=((.of [1,0,0] rfl):PickO _ _ _)) ((.of [0,1,2,3,4,5,6] rfl):SelR _ _ _)
       ·
        refine zw<|zc<|za<|e_mv rfl<|e_mv rfl<|e_mv rfl<|zna 0 rfl rfl rfl (zT (a0:=(F.getD (((yc F (v:Int)).getD k 0).toNat) (0,0,0)).1) (v:=((yc F (v:Int)).getD k 0)) ky3 Try.underlying65 rfl rfl rfl (ze.2 om)) (fun _=> .z) (fun _ _=> ?_)
        refine zi<|zB ?_
        exact zS (u,mput oth ((F.getD (((yc F (v:Int)).getD k 0).toNat) (0,0,0)).1) ((yc F (v:Int)).getD k 0)) (show yh (yf F (v:Int) ((yc F (v:Int)).take k)++yg (v:Int) ((yc F (v:Int)).getD k 0) (F.getD ((yc F (v:Int)).getD k 0).toNat (0,0,0)).1) u (mput oth ((F.getD (((yc F (v:Int)).getD k 0).toNat) (0,0,0)).1) ((yc F (v:Int)).getD k 0)) from by exact hu.miss hag2 hwv hok) (mR rfl) (ho:=((.of [0,0,0] rfl):PickO _ _ _)) ((.of [0,1,2,3,4,5,6] rfl):SelR _ _ _)
     ·
      rintro ⟨ua0,oa0⟩ hu
      replace hu:yh (yf F (v:Int) ((yc F (v:Int)).take k)++yg (v:Int) ((yc F (v:Int)).getD k 0) (F.getD ((yc F (v:Int)).getD k 0).toNat (0,0,0)).1) ua0 oa0:=hu
      try dsimp only
      refine za<|e_p (zv (z:=1) rfl rfl (w64 dd))<|e_mv rfl<|zi<|zja<|zX<|zf<|za<|e_p (zD rfl rfl)<|zi<|zc<|zf<|zW rfl rfl<|zw<|zc<|zJa (X:=(List (Int×Int))×(List (Int×Int))) (fun x=>yh (yf F (v:Int) ((yc F (v:Int)).take k)++yg (v:Int) ((yc F (v:Int)).getD k 0) (F.getD ((yc F (v:Int)).getD k 0).toNat (0,0,0)).1++yg (v:Int) ((yc F (v:Int)).getD k 0) (F.getD ((yc F (v:Int)).getD k 0).toNat (0,0,0)).2.1) x.1 x.2) (fun x=>[(85,.bool true),(84,.int .i64 1),(104,.int .i64 1),(83,.agg #[.int .i64 ((F.getD (((yc F (v:Int)).getD k 0).toNat) (0,0,0)).1),.int .i64 ((F.getD (((yc F (v:Int)).getD k 0).toNat) (0,0,0)).2.1),.int .i64 ((F.getD (((yc F (v:Int)).getD k 0).toNat) (0,0,0)).2.2)]),(15,.int .i64 ((yc F (v:Int)).getD k 0)),(75,.int .i64 ((k:Nat):Int)),(74,.int .i64 (((yc F (v:Int)).length:Nat):Int)),(73,.slice p27 ((yc F (v:Int)).length) c28),(13,.map (some b31)),(12,.map (some b30)),(11,.slice p27 ((yc F (v:Int)).length) c28),(10,.int .i64 ((v:Nat):Int)),(66,.int .i64 ((v:Nat):Int)),(65,.int .i64 ((nv:Nat):Int)),(64,.slice (some ⟨b3,0,none⟩) nv nv),(1,.pointer (some ⟨b1,0,none⟩))]) (fun x=>[mapA b31 (fun z:Int=> .int .i64 z) (fun z:Int=> .int .i64 z) (InK .i64) (x.2),mapA b30 (fun z:Int=> .int .i64 z) (fun z:Int=> .int .i64 z) (InK .i64) (x.1),boxA b1 32 [.slice pv nv cv,.slice pf nf cf]]) (fun x=>[atF b36 o37 [.int .i64 ((F.getD (((yc F (v:Int)).getD k 0).toNat) (0,0,0)).1),.int .i64 ((F.getD (((yc F (v:Int)).getD k 0).toNat) (0,0,0)).2.1),.int .i64 ((F.getD (((yc F (v:Int)).getD k 0).toNat) (0,0,0)).2.2)],atF b33 o34 [.int .i64 ((yc F (v:Int)).getD k 0)],atF b25 o26 [.slice p27 ((yc F (v:Int)).length) c28],slF (rI .i64) p27 c28 (yc F (v:Int)),slF (rS (rI .i64)) (some ⟨b3,0,none⟩) nv ((List.range nv).map (fun v:Nat=>yc F (v:Int))),slF (rI3 .i64) pv cv V,slF (rI3 .i64) pf cf F]) ?_ ?_
      ·
       refine zq<|zf<|za<|e_p (zha (i:=1) Try.underlying35 ty3 rfl rfl dd rfl)<|e_p (zd rfl)<|zi<|zc<|zf<|zf<|za<|e_mv rfl<|e_mv rfl<|e_p (zya rfl rfl)<|zi<|zc<|zG rfl (fun hwv=> ?_) (fun hwv=> ?_)
       ·
        refine zP<|zj<|zo ?_
        exact zS (ua0,oa0) (show yh (yf F (v:Int) ((yc F (v:Int)).take k)++yg (v:Int) ((yc F (v:Int)).getD k 0) (F.getD ((yc F (v:Int)).getD k 0).toNat (0,0,0)).1++yg (v:Int) ((yc F (v:Int)).getD k 0) (F.getD ((yc F (v:Int)).getD k 0).toNat (0,0,0)).2.1) ua0 oa0 from by exact hu.skip hwv) (mR rfl) (ho:=((.of [0,0,0] rfl):PickO _ _ _)) ((.of [0,1,2,3,4,5,6] rfl):SelR _ _ _)
       ·
        refine zw<|zc<|zf<|zf<|za<|e_mv rfl<|e_mv rfl<|e_ru (zKa (z:=0) (a0:=(F.getD (((yc F (v:Int)).getD k 0).toNat) (0,0,0)).2.1) (v:= .int .i64 ((mget oa0 ((F.getD (((yc F (v:Int)).getD k 0).toNat) (0,0,0)).2.1)).getD 0)) 0 rfl ky3 Try.underlying65 zr3 rfl rfl (ze.2 om) rfl)<|e_mv rfl<|e_p (zy rfl rfl)<|e_p (zy rfl rfl)<|e_p (zd rfl)<|e_p (zd rfl)<|zi<|zc<|zf<|za<|e_mv rfl<|zi<|zc<|zAa rfl (fun hok=> ?_) (fun hok=> ?_)
        ·
         have hkp:=hu.kpos hok
         refine za<|e_mv rfl<|e_mv rfl<|e_mv rfl<|zWb (zK (i:=1) rfl)<|zfb (A:=[mapA b30 (fun z:Int=> .int .i64 z) (fun z:Int=> .int .i64 z) (InK .i64) ua0]) (F:=[mapA b31 (fun z:Int=> .int .i64 z) (fun z:Int=> .int .i64 z) (InK .i64) oa0,boxA b1 32 [.slice pv nv cv,.slice pf nf cf]]) (first:=[]) (cap:=[]) rfl rfl rfl (.c rfl (.c rfl (.c rfl .n))) ce23 (zub (b:=b30) (U:=ua0) (i0:=((yc F (v:Int)).getD k 0)) (k0:=((mget oa0 ((F.getD (((yc F (v:Int)).getD k 0).toNat) (0,0,0)).2.1)).getD 0)) (hU:=by first|rfl|assumption|exact hu.ok|exact huF.ok|omega|(simp;done)|(simp;omega)) (hi0:=by first|rfl|assumption|exact hu.ok|exact huF.ok|omega|(simp;done)|(simp;omega)) (hk0:=by first|rfl|assumption|exact hu.ok|exact huF.ok|omega|(simp;done)|(simp;omega))) (.n) ?_
         rintro ⟨⟩ -
         dsimp only [aq,nq,cq]
         refine zi<|zc<|za<|e_mv rfl<|e_mv rfl<|e_mv rfl<|zna 1 rfl rfl rfl (zT (a0:=(F.getD (((yc F (v:Int)).getD k 0).toNat) (0,0,0)).2.1) (v:=((yc F (v:Int)).getD k 0)) ky3 Try.underlying65 rfl rfl rfl (ze.2 om)) (fun _=>(.s .z)) (fun _ _=> ?_)
         refine zi<|zB ?_
         exact zS (yp ua0 ((yc F (v:Int)).getD k 0) ((mget oa0 ((F.getD (((yc F (v:Int)).getD k 0).toNat) (0,0,0)).2.1)).getD 0),mput oa0 ((F.getD (((yc F (v:Int)).getD k 0).toNat) (0,0,0)).2.1) ((yc F (v:Int)).getD k 0)) (show yh (yf F (v:Int) ((yc F (v:Int)).take k)++yg (v:Int) ((yc F (v:Int)).getD k 0) (F.getD ((yc F (v:Int)).getD k 0).toNat (0,0,0)).1++yg (v:Int) ((yc F (v:Int)).getD k 0) (F.getD ((yc F (v:Int)).getD k 0).toNat (0,0,0)).2.1) (yp ua0 ((yc F (v:Int)).getD k 0) ((mget oa0 ((F.getD (((yc F (v:Int)).getD k 0).toNat) (0,0,0)).2.1)).getD 0)) (mput oa0 ((F.getD (((yc F (v:Int)).getD k 0).toNat) (0,0,0)).2.1) ((yc F (v:Int)).getD k 0)) from by exact hu.hit hag2 hwv hok) (mR rfl) (ho:=((.of [1,0,0] rfl):PickO _ _ _)) ((.of [0,1,2,3,4,5,6] rfl):SelR _ _ _)
        ·
         refine zw<|zc<|za<|e_mv rfl<|e_mv rfl<|e_mv rfl<|zna 0 rfl rfl rfl (zT (a0:=(F.getD (((yc F (v:Int)).getD k 0).toNat) (0,0,0)).2.1) (v:=((yc F (v:Int)).getD k 0)) ky3 Try.underlying65 rfl rfl rfl (ze.2 om)) (fun _=> .z) (fun _ _=> ?_)
         refine zi<|zB ?_
         exact zS (ua0,mput oa0 ((F.getD (((yc F (v:Int)).getD k 0).toNat) (0,0,0)).2.1) ((yc F (v:Int)).getD k 0)) (show yh (yf F (v:Int) ((yc F (v:Int)).take k)++yg (v:Int) ((yc F (v:Int)).getD k 0) (F.getD ((yc F (v:Int)).getD k 0).toNat (0,0,0)).1++yg (v:Int) ((yc F (v:Int)).getD k 0) (F.getD ((yc F (v:Int)).getD k 0).toNat (0,0,0)).2.1) ua0 (mput oa0 ((F.getD (((yc F (v:Int)).getD k 0).toNat) (0,0,0)).2.1) ((yc F (v:Int)).getD k 0)) from by exact hu.miss hag2 hwv hok) (mR rfl) (ho:=((.of [0,0,0] rfl):PickO _ _ _)) ((.of [0,1,2,3,4,5,6] rfl):SelR _ _ _)
      ·
       rintro ⟨ua1,oa1⟩ hu
       replace hu:yh (yf F (v:Int) ((yc F (v:Int)).take k)++yg (v:Int) ((yc F (v:Int)).getD k 0) (F.getD ((yc F (v:Int)).getD k 0).toNat (0,0,0)).1++yg (v:Int) ((yc F (v:Int)).getD k 0) (F.getD ((yc F (v:Int)).getD k 0).toNat (0,0,0)).2.1) ua1 oa1:=hu
       try dsimp only
       refine za<|e_p (zv (z:=2) rfl rfl (w64 dd))<|e_mv rfl<|zi<|zja<|zX<|zf<|za<|e_p (zD rfl rfl)<|zi<|zc<|zf<|zW rfl rfl<|zw<|zc<|zJa (X:=(List (Int×Int))×(List (Int×Int))) (fun x=>yh (yf F (v:Int) ((yc F (v:Int)).take k)++yg (v:Int) ((yc F (v:Int)).getD k 0) (F.getD ((yc F (v:Int)).getD k 0).toNat (0,0,0)).1++yg (v:Int) ((yc F (v:Int)).getD k 0) (F.getD ((yc F (v:Int)).getD k 0).toNat (0,0,0)).2.1++yg (v:Int) ((yc F (v:Int)).getD k 0) (F.getD ((yc F (v:Int)).getD k 0).toNat (0,0,0)).2.2) x.1 x.2) (fun x=>[(85,.bool true),(84,.int .i64 2),(104,.int .i64 2),(83,.agg #[.int .i64 ((F.getD (((yc F (v:Int)).getD k 0).toNat) (0,0,0)).1),.int .i64 ((F.getD (((yc F (v:Int)).getD k 0).toNat) (0,0,0)).2.1),.int .i64 ((F.getD (((yc F (v:Int)).getD k 0).toNat) (0,0,0)).2.2)]),(15,.int .i64 ((yc F (v:Int)).getD k 0)),(75,.int .i64 ((k:Nat):Int)),(74,.int .i64 (((yc F (v:Int)).length:Nat):Int)),(73,.slice p27 ((yc F (v:Int)).length) c28),(13,.map (some b31)),(12,.map (some b30)),(11,.slice p27 ((yc F (v:Int)).length) c28),(10,.int .i64 ((v:Nat):Int)),(66,.int .i64 ((v:Nat):Int)),(65,.int .i64 ((nv:Nat):Int)),(64,.slice (some ⟨b3,0,none⟩) nv nv),(1,.pointer (some ⟨b1,0,none⟩))]) (fun x=>[mapA b31 (fun z:Int=> .int .i64 z) (fun z:Int=> .int .i64 z) (InK .i64) (x.2),mapA b30 (fun z:Int=> .int .i64 z) (fun z:Int=> .int .i64 z) (InK .i64) (x.1),boxA b1 32 [.slice pv nv cv,.slice pf nf cf]]) (fun x=>[atF b36 o37 [.int .i64 ((F.getD (((yc F (v:Int)).getD k 0).toNat) (0,0,0)).1),.int .i64 ((F.getD (((yc F (v:Int)).getD k 0).toNat) (0,0,0)).2.1),.int .i64 ((F.getD (((yc F (v:Int)).getD k 0).toNat) (0,0,0)).2.2)],atF b33 o34 [.int .i64 ((yc F (v:Int)).getD k 0)],atF b25 o26 [.slice p27 ((yc F (v:Int)).length) c28],slF (rI .i64) p27 c28 (yc F (v:Int)),slF (rS (rI .i64)) (some ⟨b3,0,none⟩) nv ((List.range nv).map (fun v:Nat=>yc F (v:Int))),slF (rI3 .i64) pv cv V,slF (rI3 .i64) pf cf F]) ?_ ?_
       ·
        refine zq<|zf<|za<|e_p (zha (i:=2) Try.underlying35 ty3 rfl rfl dd rfl)<|e_p (zd rfl)<|zi<|zc<|zf<|zf<|za<|e_mv rfl<|e_mv rfl<|e_p (zya rfl rfl)<|zi<|zc<|zG rfl (fun hwv=> ?_) (fun hwv=> ?_)
        ·
         refine zP<|zj<|zo ?_
         exact zS (ua1,oa1) (show yh (yf F (v:Int) ((yc F (v:Int)).take k)++yg (v:Int) ((yc F (v:Int)).getD k 0) (F.getD ((yc F (v:Int)).getD k 0).toNat (0,0,0)).1++yg (v:Int) ((yc F (v:Int)).getD k 0) (F.getD ((yc F (v:Int)).getD k 0).toNat (0,0,0)).2.1++yg (v:Int) ((yc F (v:Int)).getD k 0) (F.getD ((yc F (v:Int)).getD k 0).toNat (0,0,0)).2.2) ua1 oa1 from by exact hu.skip hwv) (mR rfl) (ho:=((.of [0,0,0] rfl):PickO _ _ _)) ((.of [0,1,2,3,4,5,6] rfl):SelR _ _ _)
        ·
         refine zw<|zc<|zf<|zf<|za<|e_mv rfl<|e_mv rfl<|e_ru (zKa (z:=0) (a0:=(F.getD (((yc F (v:Int)).getD k 0).toNat) (0,0,0)).2.2) (v:= .int .i64 ((mget oa1 ((F.getD (((yc F (v:Int)).getD k 0).toNat) (0,0,0)).2.2)).getD 0)) 0 rfl ky3 Try.underlying65 zr3 rfl rfl (ze.2 om) rfl)<|e_mv rfl<|e_p (zy rfl rfl)<|e_p (zy rfl rfl)<|e_p (zd rfl)<|e_p (zd rfl)<|zi<|zc<|zf<|za<|e_mv rfl<|zi<|zc<|zAa rfl (fun hok=> ?_) (fun hok=> ?_)
         ·
          have hkp:=hu.kpos hok
          refine za<|e_mv rfl<|e_mv rfl<|e_mv rfl<|zWb (zK (i:=1) rfl)<|zfb (A:=[mapA b30 (fun z:Int=> .int .i64 z) (fun z:Int=> .int .i64 z) (InK .i64) ua1]) (F:=[mapA b31 (fun z:Int=> .int .i64 z) (fun z:Int=> .int .i64 z) (InK .i64) oa1,boxA b1 32 [.slice pv nv cv,.slice pf nf cf]]) (first:=[]) (cap:=[]) rfl rfl rfl (.c rfl (.c rfl (.c rfl .n))) ce23 (zub (b:=b30) (U:=ua1) (i0:=((yc F (v:Int)).getD k 0)) (k0:=((mget oa1 ((F.getD (((yc F (v:Int)).getD k 0).toNat) (0,0,0)).2.2)).getD 0)) (hU:=by first|rfl|assumption|exact hu.ok|exact huF.ok|omega|(simp;done)|(simp;omega)) (hi0:=by first|rfl|assumption|exact hu.ok|exact huF.ok|omega|(simp;done)|(simp;omega)) (hk0:=by first|rfl|assumption|exact hu.ok|exact huF.ok|omega|(simp;done)|(simp;omega))) (.n) ?_
          rintro ⟨⟩ -
          dsimp only [aq,nq,cq]
          refine zi<|zc<|za<|e_mv rfl<|e_mv rfl<|e_mv rfl<|zna 1 rfl rfl rfl (zT (a0:=(F.getD (((yc F (v:Int)).getD k 0).toNat) (0,0,0)).2.2) (v:=((yc F (v:Int)).getD k 0)) ky3 Try.underlying65 rfl rfl rfl (ze.2 om)) (fun _=>(.s .z)) (fun _ _=> ?_)
          refine zi<|zB ?_
          exact zS (yp ua1 ((yc F (v:Int)).getD k 0) ((mget oa1 ((F.getD (((yc F (v:Int)).getD k 0).toNat) (0,0,0)).2.2)).getD 0),mput oa1 ((F.getD (((yc F (v:Int)).getD k 0).toNat) (0,0,0)).2.2) ((yc F (v:Int)).getD k 0)) (show yh (yf F (v:Int) ((yc F (v:Int)).take k)++yg (v:Int) ((yc F (v:Int)).getD k 0) (F.getD ((yc F (v:Int)).getD k 0).toNat (0,0,0)).1++yg (v:Int) ((yc F (v:Int)).getD k 0) (F.getD ((yc F (v:Int)).getD k 0).toNat (0,0,0)).2.1++yg (v:Int) ((yc F (v:Int)).getD k 0) (F.getD ((yc F (v:Int)).getD k 0).toNat (0,0,0)).2.2) (yp ua1 ((yc F (v:Int)).getD k 0) ((mget oa1 ((F.getD (((yc F (v:Int)).getD k 0).toNat) (0,0,0)).2.2)).getD 0)) (mput oa1 ((F.getD (((yc F (v:Int)).getD k 0).toNat) (0,0,0)).2.2) ((yc F (v:Int)).getD k 0)) from by exact hu.hit hag2 hwv hok) (mR rfl) (ho:=((.of [1,0,0] rfl):PickO _ _ _)) ((.of [0,1,2,3,4,5,6] rfl):SelR _ _ _)
         ·
          refine zw<|zc<|za<|e_mv rfl<|e_mv rfl<|e_mv rfl<|zna 0 rfl rfl rfl (zT (a0:=(F.getD (((yc F (v:Int)).getD k 0).toNat) (0,0,0)).2.2) (v:=((yc F (v:Int)).getD k 0)) ky3 Try.underlying65 rfl rfl rfl (ze.2 om)) (fun _=> .z) (fun _ _=> ?_)
          refine zi<|zB ?_
          exact zS (ua1,mput oa1 ((F.getD (((yc F (v:Int)).getD k 0).toNat) (0,0,0)).2.2) ((yc F (v:Int)).getD k 0)) (show yh (yf F (v:Int) ((yc F (v:Int)).take k)++yg (v:Int) ((yc F (v:Int)).getD k 0) (F.getD ((yc F (v:Int)).getD k 0).toNat (0,0,0)).1++yg (v:Int) ((yc F (v:Int)).getD k 0) (F.getD ((yc F (v:Int)).getD k 0).toNat (0,0,0)).2.1++yg (v:Int) ((yc F (v:Int)).getD k 0) (F.getD ((yc F (v:Int)).getD k 0).toNat (0,0,0)).2.2) ua1 (mput oa1 ((F.getD (((yc F (v:Int)).getD k 0).toNat) (0,0,0)).2.2) ((yc F (v:Int)).getD k 0)) from by exact hu.miss hag2 hwv hok) (mR rfl) (ho:=((.of [0,0,0] rfl):PickO _ _ _)) ((.of [0,1,2,3,4,5,6] rfl):SelR _ _ _)
       ·
        rintro ⟨ua2,oa2⟩ hu
        replace hu:yh (yf F (v:Int) ((yc F (v:Int)).take k)++yg (v:Int) ((yc F (v:Int)).getD k 0) (F.getD ((yc F (v:Int)).getD k 0).toNat (0,0,0)).1++yg (v:Int) ((yc F (v:Int)).getD k 0) (F.getD ((yc F (v:Int)).getD k 0).toNat (0,0,0)).2.1++yg (v:Int) ((yc F (v:Int)).getD k 0) (F.getD ((yc F (v:Int)).getD k 0).toNat (0,0,0)).2.2) ua2 oa2:=hu
        try dsimp only
        refine za<|e_p (zv (z:=3) rfl rfl (w64 dd))<|e_mv rfl<|zi<|zja<|zX<|zf<|za<|e_p (zD rfl rfl)<|zi<|zc<|zf<|zEa rfl rfl<|zP<|zj<|zj<|zo<|zB<|zc<|za<|e_p (zv (z:=(((k+1):Nat):Int)) rfl rfl (w64 om))<|e_mv rfl<|zi<|zQ ((k+1),ua2,oa2) (show (k+1)≤(yc F (v:Int)).length∧yh (yf F (v:Int) ((yc F (v:Int)).take (k+1))) ua2 oa2 from by exact ⟨by omega,by rw [Ms.take_snoc 0 om,Ms.pairs_snoc];exact hu⟩) (by show (yc F (v:Int)).length - (k+1)<(yc F (v:Int)).length - k;omega) (mR rfl) (ho:=((.of [0,0,0] rfl):PickO _ _ _)) ((.of [2,3,4,5,6] rfl):SelR _ _ _)
    ·
     have huF:yh (yf F (v:Int) (yc F (v:Int))) u oth:=by have:=hu;rwa [List.take_of_length_le om] at this
     refine zP<|zj<|zj<|zo<|zc<|zf<|za<|e_mv rfl<|e_p (zR Try.underlying22 rfl)<|e_mv rfl<|zi<|zc<|zq<|zY (X:=Nat) (fun x:Nat=>x≤(yc F (v:Int)).length∧∀j,j<x→yd u ((yc F (v:Int)).getD j 0)=yd u ((yc F (v:Int)).getD 0 0)) (fun x=>[(108,.int .i64 ((x:Nat):Int)),(107,.int .i64 (((yc F (v:Int)).length:Nat):Int)),(106,.slice p27 ((yc F (v:Int)).length) c28),(12,.map (some b30)),(11,.slice p27 ((yc F (v:Int)).length) c28),(66,.int .i64 ((v:Nat):Int)),(65,.int .i64 ((nv:Nat):Int)),(64,.slice (some ⟨b3,0,none⟩) nv nv),(1,.pointer (some ⟨b1,0,none⟩))]) (fun x=>[mapA b31 (fun z:Int=> .int .i64 z) (fun z:Int=> .int .i64 z) (InK .i64) oth,mapA b30 (fun z:Int=> .int .i64 z) (fun z:Int=> .int .i64 z) (InK .i64) u,boxA b1 32 [.slice pv nv cv,.slice pf nf cf]]) (fun x=>[atF b25 o26 [.slice p27 ((yc F (v:Int)).length) c28],slF (rI .i64) p27 c28 (yc F (v:Int)),slF (rS (rI .i64)) (some ⟨b3,0,none⟩) nv ((List.range nv).map (fun v:Nat=>yc F (v:Int))),slF (rI3 .i64) pv cv V,slF (rI3 .i64) pf cf F]) (fun x:Nat=>(yc F (v:Int)).length - x) 0 (show 0≤(yc F (v:Int)).length∧∀j,j<0→yd u ((yc F (v:Int)).getD j 0)=yd u ((yc F (v:Int)).getD 0 0) from by exact ⟨Nat.zero_le _,fun j h=>by omega⟩) ((.e rfl cgs (.of rfl)):SubM _ _) (ho:=((.of [0,0,0] rfl):PickO _ _ _)) ((.of [0,1,2,3,4] rfl):SelR _ _ _) ?_
     rintro q hJ
     replace hJ:q≤(yc F (v:Int)).length∧∀j,j<q→yd u ((yc F (v:Int)).getD j 0)=yd u ((yc F (v:Int)).getD 0 0):=hJ
     try dsimp only
     obtain ⟨hq,hall⟩:=hJ
     refine zf<|za<|e_p (zD rfl rfl)<|zi<|zc<|zf<|zG rfl (fun h39=> ?_) (fun h39=> ?_)
     ·
      have hag:=Ms.at_getD (F:=F) (v:=(v:Int)) (j:=q) om
      have hag0:=Ms.at_getD (F:=F) (v:=(v:Int)) (j:=0) om
      refine zw<|zc<|zf<|zq<|zf<|za<|zM (x0:=((yc F (v:Int)).getD q 0)) 1 q rfl Try.underlying22 sz3 rfl rfl rfl (by first|rfl|assumption|(simp;done)|omega) rfl rfl (gD (d:=0) om) (fun b40 o41 hok42=> ?_)
      replace hok42:=ze.1 hok42
      refine e_ru (zp (j:=0) 0 ty3 rfl rfl rfl rfl)<|e_p (zd rfl)<|zi<|zc<|zf<|zWa (.c (i:=1) rfl (.c (i:=0) rfl (.c (i:=0) rfl .n)))<|zsa (OW:=[mapA b30 (fun z:Int=> .int .i64 z) (fun z:Int=> .int .i64 z) (InK .i64) u]) (O:=[mapA b31 (fun z:Int=> .int .i64 z) (fun z:Int=> .int .i64 z) (InK .i64) oth,boxA b1 32 [.slice pv nv cv,.slice pf nf cf]]) 2 mixed (.then (.block (.then (.then (.block (.block (.then (.then (.block (.then .ret)))))))))) kr<|e_dm 0 rfl rfl rfl<|e_dm 1 rfl rfl rfl<|e_dm 3 rfl rfl rfl<|e_dm 4 rfl rfl rfl<|zza (x0:=((yc F (v:Int)).getD 0 0)) 5 rfl rfl kr kr 2 0 rfl Try.underlying22 sz3 rfl rfl rfl (by first|rfl|assumption|(simp;done)|omega) rfl rfl (gD (d:=0) om) (fun b43 o44 hok45=> ?_)
      replace hok45:=ze.1 hok45
      refine e_u 6 rfl rfl (zp (j:=0) 0 ty3 rfl rfl rfl rfl)<|e_one 2 (zJc (first:=[]) (cap:=[]) (A':=fun y=>mapA b30 (fun z:Int=> .int .i64 z) (fun z:Int=> .int .i64 z) (InK .i64) u) kr rfl rfl rfl rfl (.c rfl (.c rfl .n)) ce24 (zmb (b:=b30) (U:=u) (i0:=((yc F (v:Int)).getD q 0)) (hU:=by first|rfl|assumption|exact hu.ok|exact huF.ok|omega|(simp;done)|(simp;omega)) (hi0:=by first|rfl|assumption|exact hu.ok|exact huF.ok|omega|(simp;done)|(simp;omega))) (.n) ?_)
      rintro ⟨⟩ -
      dsimp only [aq,nq,cq]
      refine e_one 7 (zJc (first:=[]) (cap:=[]) (A':=fun y=>mapA b30 (fun z:Int=> .int .i64 z) (fun z:Int=> .int .i64 z) (InK .i64) u) kr rfl rfl rfl rfl (.c rfl (.c rfl .n)) ce24 (zmb (b:=b30) (U:=u) (i0:=((yc F (v:Int)).getD 0 0)) (hU:=by first|rfl|assumption|exact hu.ok|exact huF.ok|omega|(simp;done)|(simp;omega)) (hi0:=by first|rfl|assumption|exact hu.ok|exact huF.ok|omega|(simp;done)|(simp;omega))) (.n) ?_)
      rintro ⟨⟩ -
      dsimp only [aq,nq,cq]
      refine e_pv 8 rfl rfl (zOa rfl rfl)<|zra kr<|zc<|zG rfl (fun hne=> ?_) (fun hne=> ?_)
      ·
       refine zf<|za<|e_p (zd rfl)<|zi<|zc<|zU<|zu<|zl<|zl<|zu<|zu<|zl<|zl<|zu<|zl ?_
       exact zO Try.results13 () trivial (zx rfl) (by rw [Ms.check_star hf0 hndF (v:=v) om (huF.star_false hgood.nf (j:=q) om hne)]) (ho:=oN) sN
      ·
       refine zw<|zB<|zc<|za<|e_p (zv (z:=(((q+1):Nat):Int)) rfl rfl (w64 om))<|e_mv rfl<|zi<|zQ (q+1) (show (q+1)≤(yc F (v:Int)).length∧∀j,j<(q+1)→yd u ((yc F (v:Int)).getD j 0)=yd u ((yc F (v:Int)).getD 0 0) from by exact ⟨by omega,yr hall (Decidable.not_not.1 hne)⟩) (by show (yc F (v:Int)).length - (q+1)<(yc F (v:Int)).length - q;omega) (mR rfl) (ho:=((.of [1,0,0] rfl):PickO _ _ _)) ((.of [2,3,4,5,6] rfl):SelR _ _ _)
     ·
      refine zP<|zj<|zj<|zo<|zB<|zc<|za<|e_p (zv (z:=(((v+1):Nat):Int)) rfl rfl (w64 om))<|e_mv rfl<|zi<|zQ (v+1) (show (v+1)≤nv∧∀w:Nat,w<(v+1)→Ms.starB F (w:Int) (yc F (w:Int))=true from by exact ⟨by omega,yr (P:=fun w=>Ms.starB F (w:Int) (yc F (w:Int))=true) hst (huF.star_true hgood.nf (fun j hj=>hall j om))⟩) (by show nv - (v+1)<nv - v;omega) (mR rfl) (ho:=((.c (i:=2) rfl .n):PickO _ _ _)) ((.e (j:=2) rfl (by first|rfl|simp_all) (.of [3,4] rfl)):SelR _ _ _)
   ·
    refine zP<|zj<|zj<|zo<|zc<|zf<|za<|e_p (zd rfl)<|zi<|zc<|zU ?_
    exact zO Try.results13 () trivial (zx rfl) (by rw [Ms.check_ok hf0 hndF (fun w hw=>hst w om)]) (ho:=oN) sN
end Go.Proofs.Ytpdbimfnhglhpaa.Sp
namespace Go.Proofs.Ytpdbimfnhglhpaa.Sp
open Go
set_option linter.unusedVariables false
set_option maxRecDepth 100000
set_option maxHeartbeats 8000000
theorem zEc {pv:Option Addr} {nv:Nat} {cv:Nat} {V:List (Int×Int×Int)} {pf:Option Addr} {nf:Nat} {cf:Nat} {F:List (Int×Int×Int)} (hnv:V.length=nv) (hnf:F.length=nf) (hg:Ms.Good V F):Con Try.prog 31 [.agg #[.slice pv nv cv,.slice pf nf cf]] [] [slF (rI3 .i64) pv cv V,slF (rI3 .i64) pf cf F] (Y:=Nat×(List (Int×Int))) (fun y=>Ms.BMap F y.2) (fun y=> .map (some y.1)) (fun y=>[mapA y.1 (fun z:Int=> .int .i64 z) (fun z:Int=> .int .i64 z) (InK .i64) (y.2)]) (fun y=>[]):=by
 refine zC Try.func31 rfl rfl rfl (fun c=> ?_)
 show RunC _ _ _ _ _ [(0,.agg #[.slice pv nv cv,.slice pf nf cf])] [] [slF (rI3 .i64) pv cv V,slF (rI3 .i64) pf cf F]
 refine zpa 0 rfl (fun hL0=> ?_)
 refine zpa 1 rfl (fun hL1=> ?_)
 have hnv5:nv≤512:=by have:=hg.nv;omega
 have hnf5:nf≤1024:=by have:=hg.nf;omega
 refine zf<|za<|zZ rfl rfl (zka rfl rfl) (fun b1=> ?_)
 refine e_p (zd rfl)<|zi<|zc<|zf<|za<|zwa rfl rfl (zla (κ:=Int×Int) (ν:=Bool) (fun z:Int×Int=> .agg #[.int .i64 z.1,.int .i64 z.2]) (fun z:Bool=> .bool z) (fun z=>InK .i64 z.1∧InK .i64 z.2)) (fun b2 _=> ?_)
 refine e_p (zd rfl)<|zi<|zc<|zf<|zf<|za<|e_p (zg Try.underlying32 rfl sz30 rfl rfl)<|e_ru (zb 1 ty30 rfl rfl rfl)<|e_p (zR Try.underlying30 rfl)<|e_mv rfl<|zi<|zc<|zq<|zY (X:=Nat) (fun x:Nat=>x≤nf) (fun x=>[(14,.int .i64 ((x:Nat):Int)),(13,.int .i64 ((nf:Nat):Int)),(12,.slice pf nf cf),(3,.map (some b2)),(2,.map none)]) (fun x=>[mapA b2 (fun z:Int×Int=> .agg #[.int .i64 z.1,.int .i64 z.2]) (fun z:Bool=> .bool z) (fun z=>InK .i64 z.1∧InK .i64 z.2) (Ms.allM (F.take x)),boxA b1 32 [.slice pv nv cv,.slice pf nf cf]]) (fun x=>[slF (rI3 .i64) pv cv V,slF (rI3 .i64) pf cf F]) (fun x:Nat=>nf - x) 0 (show 0≤nf from by exact Nat.zero_le _) ((.e rfl cgs (.of rfl)):SubM _ _) (ho:=((.e (i:=0) rfl (by rfl) (.c (i:=0) rfl .n)):PickO _ _ _)) ((.of [0,1] rfl):SelR _ _ _) ?_
 rintro i hI
 replace hI:i≤nf:=hI
 try dsimp only
 refine zf<|za<|e_p (zD rfl rfl)<|zi<|zc<|zf<|zG rfl (fun h3=> ?_) (fun h3=> ?_)
 ·
  have hat:=hg.at (show i<F.length by omega)
  refine zw<|zc<|zf<|zq<|zf<|za<|zM (x0:=(F.getD i (0,0,0))) 1 i rfl Try.underlying30 sz35 rfl rfl rfl cbs rfl rfl (gD (d:=(0,0,0)) om) (fun b4 o5 hok6=> ?_)
  obtain ⟨hok6x,hok6y,hok6z⟩:=hok6
  replace hok6x:=ze.1 hok6x
  replace hok6y:=ze.1 hok6y
  replace hok6z:=ze.1 hok6z
  refine e_ru (zJ (j:=0) 0 ty35 rfl rfl rfl (.t2 (.take .nil)))<|zZ rfl rfl (zF zr35 rfl) (fun b7=> ?_)
  refine zE 0 rfl rfl rfl rfl rfl sz35 rfl (.t2 (.take .nil)) .z<|zi<|zc<|zf<|za<|e_ru (zm 0 ty35 rfl rfl (.t2 (.take .nil)))<|zia rfl rfl (.c rfl .n) ce26 (zBb (ex:=(F.getD i (0,0,0)).1) (ey:=(F.getD i (0,0,0)).2.1) (ez:=(F.getD i (0,0,0)).2.2)) (.n)<|e_mv rfl<|zi<|zc<|zq<|zeb<|zX<|zf<|za<|e_p (zD rfl rfl)<|zi<|zc<|zf<|zW rfl rfl<|zw<|zc<|zf<|zq<|zf<|za<|e_p (zga (i:=0) Try.underlying73 ty68 rfl rfl dd (.t2 .nil))<|zZ rfl rfl (zF zr68 rfl) (fun b8=> ?_)
  refine zE 0 rfl rfl rfl rfl rfl sz68 rfl (.t2 .nil) .z<|zi<|zc<|za<|e_mv rfl<|e_ru (zm 0 ty68 rfl rfl (.t2 .nil))<|zna 2 rfl rfl rfl (zT (a0:=(((F.getD i (0,0,0)).1),((F.getD i (0,0,0)).2.1))) (v:=true) ky68 Try.underlying72 rfl rfl rfl (⟨ze.2 om,ze.2 om⟩)) (fun _=>(.s (.s .z))) (fun _ _=> ?_)
  refine zi<|zB<|zc<|za<|e_p (zv (z:=1) rfl rfl (w64 dd))<|e_mv rfl<|zi<|zja<|zX<|zf<|za<|e_p (zD rfl rfl)<|zi<|zc<|zf<|zW rfl rfl<|zw<|zc<|zf<|zq<|zf<|za<|e_p (zga (i:=1) Try.underlying73 ty68 rfl rfl dd (.s2 (.t2 .nil)))<|zZ rfl rfl (zF zr68 rfl) (fun b9=> ?_)
  refine zE 0 rfl rfl rfl rfl rfl sz68 rfl (.t2 .nil) .z<|zi<|zc<|za<|e_mv rfl<|e_ru (zm 0 ty68 rfl rfl (.t2 .nil))<|zna 3 rfl rfl rfl (zT (a0:=(((F.getD i (0,0,0)).2.1),((F.getD i (0,0,0)).2.2))) (v:=true) ky68 Try.underlying72 rfl rfl rfl (⟨ze.2 om,ze.2 om⟩)) (fun _=>(.s (.s (.s .z)))) (fun _ _=> ?_)
  refine zi<|zB<|zc<|za<|e_p (zv (z:=2) rfl rfl (w64 dd))<|e_mv rfl<|zi<|zja<|zX<|zf<|za<|e_p (zD rfl rfl)<|zi<|zc<|zf<|zW rfl rfl<|zw<|zc<|zf<|zq<|zf<|za<|e_p (zga (i:=2) Try.underlying73 ty68 rfl rfl dd (.s4 (.t2 .nil)))<|zZ rfl rfl (zF zr68 rfl) (fun b10=> ?_)
  refine zE 0 rfl rfl rfl rfl rfl sz68 rfl (.t2 .nil) .z<|zi<|zc<|za<|e_mv rfl<|e_ru (zm 0 ty68 rfl rfl (.t2 .nil))<|zna 4 rfl rfl rfl (zT (a0:=(((F.getD i (0,0,0)).2.2),((F.getD i (0,0,0)).1))) (v:=true) ky68 Try.underlying72 rfl rfl rfl (⟨ze.2 om,ze.2 om⟩)) (fun _=>(.s (.s (.s (.s .z))))) (fun _ _=> ?_)
  refine zi<|zB<|zc<|za<|e_p (zv (z:=3) rfl rfl (w64 dd))<|e_mv rfl<|zi<|zja<|zX<|zf<|za<|e_p (zD rfl rfl)<|zi<|zc<|zf<|zEa rfl rfl<|zP<|zj<|zj<|zo<|zB<|zc<|za<|e_p (zv (z:=(((i+1):Nat):Int)) rfl rfl (w64 om))<|e_mv rfl<|zi<|zQ (i+1) (show (i+1)≤nf from by exact (by omega:i+1≤nf)) (by show nf - (i+1)<nf - i;omega) (mR rfl) (ho:=((.e (i:=4) rfl (by rw [Ms.allM_take om]) (.c (i:=4) rfl .n)):PickO _ _ _)) ((.of [1,2] rfl):SelR _ _ _)
 ·
  refine zP<|zj<|zj<|zo<|zc<|zf ?_
  have e11:Ms.allM (F.take i)=Ms.allM F:=by rw [List.take_of_length_le om]
  rw [e11]
  refine za<|zwa rfl rfl (zla (κ:=Int) (ν:=Int) (fun z:Int=> .int .i64 z) (fun z:Int=> .int .i64 z) (InK .i64)) (fun b12 _=> ?_)
  refine e_p (zd rfl)<|zi<|zc<|zf<|zf<|za<|e_mv rfl<|zna 1 rfl rfl rfl (ztc Try.underlying72 rfl) (fun _=>(.s .z)) (fun it13 _=> ?_)
  refine zi<|zc<|zq<|zY (X:=(List ((Int×Int)×Bool))×(List (Int×Int))) (fun x:(List ((Int×Int)×Bool))×(List (Int×Int))=>Ms.BPart F x.1 x.2) (fun x=>[(29,.pointer (some ⟨it13,0,none⟩)),(8,.map (some b12)),(3,.map (some b2)),(2,.map none)]) (fun x=>[mapA b12 (fun z:Int=> .int .i64 z) (fun z:Int=> .int .i64 z) (InK .i64) (x.2),itA b2 it13 (fun z:Int×Int=> .agg #[.int .i64 z.1,.int .i64 z.2]) (fun z:Bool=> .bool z) (fun z=>InK .i64 z.1∧InK .i64 z.2) (Ms.allM F) (x.1),boxA b1 32 [.slice pv nv cv,.slice pf nf cf]]) (fun x=>[slF (rI3 .i64) pv cv V,slF (rI3 .i64) pf cf F]) (fun x:(List ((Int×Int)×Bool))×(List (Int×Int))=>(Ms.allM F).length - x.1.length) (([]:List ((Int×Int)×Bool)),([]:List (Int×Int))) (show Ms.BPart F ([]:List ((Int×Int)×Bool)) ([]:List (Int×Int)) from by exact Ms.BPart.nil F) (mR rfl) (ho:=((.e (i:=0) rfl cgs (.e (i:=0) rfl cgs (.c (i:=0) rfl .n))):PickO _ _ _)) ((.of [0,1] rfl):SelR _ _ _) ?_
  rintro ⟨vis,bm⟩ hB
  replace hB:Ms.BPart F vis bm:=hB
  try dsimp only
  refine zf<|za<|zfd 1 rfl rfl rfl rfl (fun _=>(.s .z)) (fun e hem hen=> ?_) (fun hperm=> ?_)
  ·
   have her:=Ms.all_rng hg (Ms.allM_mem hem)
   refine e_p (zy rfl rfl)<|zi<|zc<|zf<|zW rfl rfl<|zw<|zc<|zq<|zf<|za<|e_ru (zuc (p:=e) 1 rfl rfl)<|e_p (zy rfl rfl)<|zZ rfl rfl (zF zr68 rfl) (fun b14=> ?_)
   refine zE 0 rfl rfl rfl rfl rfl sz68 rfl (.t2 .nil) .z<|zi<|zc<|zf<|za<|e_mv rfl<|e_p (zk (i:=1) Try.underlying68 sz3 rfl rfl dd rfl)<|e_ru (zb 0 ty3 rfl rfl rfl)<|e_p (zk (i:=0) Try.underlying68 sz3 rfl rfl dd rfl)<|e_ru (zb 0 ty3 rfl rfl rfl)<|e_p (zA zr68 rfl Try.underlying68 sz3 (.c rfl (.c rfl .n)) (.c rfl rfl rfl (.take .nil) (.c rfl rfl rfl (.skip (.take .nil)) .n)))<|e_ru (zOb (z:=false) (a0:=(e.1.2,e.1.1)) (v:= .bool ((mget (Ms.allM F) (e.1.2,e.1.1)).getD false)) 2 rfl ky68 Try.underlying72 zr4 rfl rfl (⟨ze.2 om,ze.2 om⟩) rfl)<|e_p (zFb rfl)<|zi<|zc<|zAa rfl (fun hl=> ?_) (fun hl=> ?_)
   ·
    refine za<|e_mv rfl<|e_p (zk (i:=0) Try.underlying68 sz3 rfl rfl dd rfl)<|e_ru (zb 0 ty3 rfl rfl rfl)<|e_p (zk (i:=1) Try.underlying68 sz3 rfl rfl dd rfl)<|e_ru (zb 0 ty3 rfl rfl rfl)<|zna 1 rfl rfl rfl (zT (a0:=e.1.1) (v:=e.1.2) ky3 Try.underlying65 rfl rfl rfl (ze.2 om)) (fun _=>(.s .z)) (fun _ _=> ?_)
    refine zi<|zB<|zQ ((vis++[e]),mput bm e.1.1 e.1.2) (show Ms.BPart F (vis++[e]) (mput bm e.1.1 e.1.2) from by exact hB.hit hem hen hl) (by exact (hB.hit hem hen hl).mu) (mR rfl) (ho:=((.of [1,1,1] rfl):PickO _ _ _)) ((.of [0,1] rfl):SelR _ _ _)
   ·
    refine zw<|zB<|zQ ((vis++[e]),bm) (show Ms.BPart F (vis++[e]) bm from by exact hB.miss hem hen hl) (by exact (hB.miss hem hen hl).mu) (mR rfl) (ho:=((.of [1,1,1] rfl):PickO _ _ _)) ((.of [0,1] rfl):SelR _ _ _)
  ·
   refine e_p (zy rfl rfl)<|zi<|zc<|zf<|zEa rfl rfl<|zP<|zj<|zj<|zo<|zc<|zf<|za<|e_mv rfl<|e_p (zd rfl)<|zi<|zc<|zU ?_
   exact zO Try.results31 (b12,bm) (hB.fin hperm) (zx rfl) rfl (ho:=(o0 rfl)) sN
end Go.Proofs.Ytpdbimfnhglhpaa.Sp
namespace Go.Proofs.Ytpdbimfnhglhpaa.Sp
open Go
set_option linter.unusedVariables false
set_option maxRecDepth 100000
set_option maxHeartbeats 8000000
theorem zUc {pv:Option Addr} {nv:Nat} {cv:Nat} {V:List (Int×Int×Int)} {pf:Option Addr} {nf:Nat} {cf:Nat} {F:List (Int×Int×Int)} (hnv:V.length=nv) (hnf:F.length=nf) (hg:Ms.Good V F):Con Try.prog 22 [.agg #[.slice pv nv cv,.slice pf nf cf]] [] [slF (rI3 .i64) pv cv V,slF (rI3 .i64) pf cf F] (Y:=(Option Addr)×Nat×(List (Int×Int))) (fun y=>Ms.BMap F y.2.2) (fun y=> .slice (y.1) ((Ms.loops (fun jj=>mget y.2.2 jj) nv).length) (y.2.1)) (fun y=>[]) (fun y=>[slF (rS (rI .i64)) (y.1) (y.2.1) (Ms.loops (fun jj=>mget y.2.2 jj) nv)]):=by
 refine zC Try.func22 rfl rfl rfl (fun c=> ?_)
 show RunC _ _ _ _ _ [(0,.agg #[.slice pv nv cv,.slice pf nf cf])] [] [slF (rI3 .i64) pv cv V,slF (rI3 .i64) pf cf F]
 refine zpa 0 rfl (fun hL0=> ?_)
 refine zpa 1 rfl (fun hL1=> ?_)
 have hnv5:nv≤512:=by have:=hg.nv;omega
 have hnf5:nf≤1024:=by have:=hg.nf;omega
 refine zf<|za<|zZ rfl rfl (zka rfl rfl) (fun b1=> ?_)
 refine e_p (zd rfl)<|zi<|zc<|zf<|za<|e_ru (zm 0 ty32 rfl rfl (.t2 .nil))<|zFa rfl rfl (.c rfl .n) ce31 (zEc (pv:=pv) (nv:=nv) (cv:=cv) (V:=V) (pf:=pf) (nf:=nf) (cf:=cf) (F:=F) (hnv:=ass) (hnf:=ass) (hg:=ass)) (.c (j:=0) rfl (.c (j:=1) rfl .n)) ?_
 rintro ⟨b22,bm1⟩ hB
 dsimp only [aq,nq,cq]
 replace hB:Ms.BMap F bm1:=hB
 refine e_p (zd rfl)<|zi<|zc<|zf<|za<|e_p (zd rfl)<|zi<|zc<|zf<|za<|zwa rfl rfl (zla (κ:=Int) (ν:=Bool) (fun z:Int=> .int .i64 z) (fun z:Bool=> .bool z) (InK .i64)) (fun b3 _=> ?_)
 refine e_p (zd rfl)<|zi<|zc<|zf<|zf<|zjb 22 (rS (rI .i64))<|za<|e_p (zg Try.underlying32 rfl sz29 rfl rfl)<|e_ru (zb 3 ty29 rfl rfl rfl)<|e_p (zR Try.underlying29 rfl)<|e_mv rfl<|zi<|zc<|zq<|zY (X:=Nat×(List (Int×Bool))×(List Int)×(Option Addr)×Nat×(List (List Int))) (fun x:Nat×(List (Int×Bool))×(List Int)×(Option Addr)×Nat×(List (List Int))=>x.1≤nv∧ym x.2.1 x.2.2.1∧Ms.LInv (fun jj=>mget bm1 jj) nv x.1 x.2.2.1 x.2.2.2.2.2) (fun x=>[(4,.slice (x.2.2.2.1) (x.2.2.2.2.2.length) (x.2.2.2.2.1)),(17,.int .i64 ((x.1:Nat):Int)),(16,.int .i64 ((nv:Nat):Int)),(5,.map (some b3)),(3,.map (some b22)),(2,.slice none 0 0)]) (fun x=>[rowA 22 (rS (rI .i64)) (x.2.2.2.1) (x.2.2.2.2.1) (x.2.2.2.2.2),mapA b3 (fun z:Int=> .int .i64 z) (fun z:Bool=> .bool z) (InK .i64) (x.2.1),mapA b22 (fun z:Int=> .int .i64 z) (fun z:Int=> .int .i64 z) (InK .i64) bm1,boxA b1 32 [.slice pv nv cv,.slice pf nf cf]]) (fun x=>[slF (rI3 .i64) pv cv V,slF (rI3 .i64) pf cf F]) (fun x:Nat×(List (Int×Bool))×(List Int)×(Option Addr)×Nat×(List (List Int))=>nv - x.1) (0,([]:List (Int×Bool)),([]:List Int),none,0,([]:List (List Int))) (show 0≤nv∧ym ([]:List (Int×Bool)) ([]:List Int)∧Ms.LInv (fun jj=>mget bm1 jj) nv 0 ([]:List Int) ([]:List (List Int)) from by exact ⟨Nat.zero_le _,ym.nil,Ms.LInv.start _ _⟩) ((.e rfl cgs (.e rfl cgs (.of rfl))):SubM _ _) (ho:=((.e (i:=0) rfl cgs (.e (i:=0) rfl cgs (.of [0,0] rfl))):PickO _ _ _)) ((.of [0,1] rfl):SelR _ _ _) ?_
 rintro ⟨v,dm,K,p,c,out⟩ hI
 replace hI:v≤nv∧ym dm K∧Ms.LInv (fun jj=>mget bm1 jj) nv v K out:=hI
 try dsimp only
 obtain ⟨hv,hM,hL⟩:=hI
 have hol:=hL.len
 refine zf<|za<|e_p (zD rfl rfl)<|zi<|zc<|zf<|zG rfl (fun h4=> ?_) (fun h4=> ?_)
 ·
  refine zw<|zc<|zf<|zq<|zf<|za<|e_mv rfl<|e_p (zd rfl)<|zi<|zc<|zld<|zf<|zf<|za<|e_mv rfl<|e_mv rfl<|e_ru (zKa (z:=0) (a0:=((v:Nat):Int)) (v:= .int .i64 ((mget bm1 ((v:Nat):Int)).getD 0)) 2 rfl ky3 Try.underlying65 zr3 rfl rfl (ze.2 om) rfl)<|e_mv rfl<|e_p (zy rfl rfl)<|e_p (zy rfl rfl)<|e_p (zd rfl)<|e_p (zd rfl)<|zi<|zc<|zJa (X:=Unit) (fun x=>True) (fun x=>[(32,.bool (decide (((!((mget bm1 ((v:Nat):Int)).isSome))=true)∨(((mget dm ((v:Nat):Int)).getD false)=true)))),(6,.int .i64 ((v:Nat):Int)),(4,.slice p (out.length) c),(17,.int .i64 ((v:Nat):Int)),(16,.int .i64 ((nv:Nat):Int)),(5,.map (some b3)),(3,.map (some b22)),(2,.slice none 0 0)]) (fun x=>[rowA 22 (rS (rI .i64)) p c out,mapA b3 (fun z:Int=> .int .i64 z) (fun z:Bool=> .bool z) (InK .i64) dm,mapA b22 (fun z:Int=> .int .i64 z) (fun z:Int=> .int .i64 z) (InK .i64) bm1,boxA b1 32 [.slice pv nv cv,.slice pf nf cf]]) (fun x=>[slF (rI3 .i64) pv cv V,slF (rI3 .i64) pf cf F]) ?_ ?_
  ·
   refine za<|e_mv rfl<|e_p (zFb rfl)<|zed rfl rfl (zL rfl) (fun h5=> ?_) (fun h5=> ?_)
   ·
    refine e_no<|e_no<|e_no<|e_p (zn rfl rfl)<|zi ?_
    exact zS () tt9 ((.e rfl (congrArg Value.bool cbu) (.of rfl)):SubM _ _) (ho:=((.of [0,0,0,0] rfl):PickO _ _ _)) ((.of [0,1] rfl):SelR _ _ _)
   ·
    refine e_mv rfl<|e_mv rfl<|e_ru (zfa (z:=false) (a0:=((v:Nat):Int)) (v:= .bool ((mget dm ((v:Nat):Int)).getD false)) 1 rfl ky3 Try.underlying61 zr4 rfl rfl (ze.2 om) rfl)<|e_p (zn rfl rfl)<|zi ?_
    exact zS () tt9 ((.e rfl (congrArg Value.bool cbu) (.of rfl)):SubM _ _) (ho:=((.of [0,0,0,0] rfl):PickO _ _ _)) ((.of [0,1] rfl):SelR _ _ _)
  ·
   rintro ⟨⟩ -
   try dsimp only
   refine zG rfl (fun hsk=> ?_) (fun hsk=> ?_)
   ·
    refine zP<|zj<|zXb<|zo<|zc<|za<|e_p (zv (z:=(((v+1):Nat):Int)) rfl rfl (w64 om))<|e_mv rfl<|zi<|zQ ((v+1),dm,K,p,c,out) (show (v+1)≤nv∧ym dm K∧Ms.LInv (fun jj=>mget bm1 jj) nv (v+1) K out from by exact ⟨by omega,hM,hL.skip (hsk.imp id hM.yes)⟩) (by show nv - (v+1)<nv - v;omega) (mR rfl) (ho:=((.of [0,0,0,0] rfl):PickO _ _ _)) ((.of [0,1] rfl):SelR _ _ _)
   ·
    refine zw<|zc<|zf<|za<|e_p (zd rfl)<|zi<|zc<|zf<|zgd<|zc<|zf<|zf<|zjb 3 (rI .i64)<|za<|e_mv rfl<|e_p (zd rfl)<|zi<|zc<|zq<|zY (X:=(List (Int×Bool))×(Option Addr)×Nat×(List Int)×Int) (fun x:(List (Int×Bool))×(Option Addr)×Nat×(List Int)×Int=>ym x.1 (K++x.2.2.2.1)∧Ms.WInv (fun jj=>mget bm1 jj) nv K (v:Int) x.2.2.2.1 x.2.2.2.2) (fun x=>[(10,.int .i64 (x.2.2.2.2)),(9,.slice (x.2.1) (x.2.2.2.1.length) (x.2.2.1)),(4,.slice p (out.length) c),(17,.int .i64 ((v:Nat):Int)),(16,.int .i64 ((nv:Nat):Int)),(5,.map (some b3)),(3,.map (some b22)),(2,.slice none 0 0)]) (fun x=>[rowA 3 (rI .i64) (x.2.1) (x.2.2.1) (x.2.2.2.1),rowA 22 (rS (rI .i64)) p c out,mapA b3 (fun z:Int=> .int .i64 z) (fun z:Bool=> .bool z) (InK .i64) (x.1),mapA b22 (fun z:Int=> .int .i64 z) (fun z:Int=> .int .i64 z) (InK .i64) bm1,boxA b1 32 [.slice pv nv cv,.slice pf nf cf]]) (fun x=>[slF (rI3 .i64) pv cv V,slF (rI3 .i64) pf cf F]) (fun x:(List (Int×Bool))×(Option Addr)×Nat×(List Int)×Int=>nv - (K++x.2.2.2.1).length) (dm,none,0,([]:List Int),((v:Nat):Int)) (show ym dm (K++([]:List Int))∧Ms.WInv (fun jj=>mget bm1 jj) nv K (v:Int) ([]:List Int) ((v:Nat):Int) from by exact ⟨by simpa using hM,Ms.WInv.start hL.rng hL.nodup om⟩) ((.c rfl (.e rfl cgs (.of rfl))):SubM _ _) (ho:=((.e (i:=0) rfl cgs (.of [0,0,0,0] rfl)):PickO _ _ _)) ((.of [0,1] rfl):SelR _ _ _) ?_
    rintro ⟨dm2,p2,c2,W,a⟩ hJ
    replace hJ:ym dm2 (K++W)∧Ms.WInv (fun jj=>mget bm1 jj) nv K (v:Int) W a:=hJ
    try dsimp only
    obtain ⟨hM2,hW⟩:=hJ
    have hWl:=hW.len
    have hWl2:=hWl
    rw [List.length_append] at hWl
    have ha:=hW.at_
    refine zf<|zq<|zf<|zf<|za<|e_mv rfl<|e_mv rfl<|e_ru (zfa (z:=false) (a0:=a) (v:= .bool ((mget dm2 a).getD false)) 2 rfl ky3 Try.underlying61 zr4 rfl rfl (ze.2 om) rfl)<|zi<|zc<|zAa rfl (fun hst=> ?_) (fun hst=> ?_)
    ·
     refine zP<|zj<|zPb rfl<|zj<|zj<|zo<|zc<|za<|e_mv rfl<|e_mv rfl<|zua 0 rfl .z<|zwa rfl rfl (zKc 0 rfl Try.underlying42 inf22 rfl (by first|rfl|assumption|(simp;done)|omega)) (fun b6 _=> ?_)
     refine zua 0 rfl .z<|zna 2 rfl rfl rfl (zea 0 rfl Try.underlying42 inf22 dd rfl rfl (by first|rfl|assumption|(simp;done)|omega) rfl (by first|rfl|assumption|(simp;done)|omega) om om) (fun _=>(.s (.s .z))) ?_
     rintro ⟨p7,c8⟩ -
     dsimp only [aq,nq,cq]
     refine e_p (zd rfl)<|zi<|zmd<|zB<|zc<|za<|e_p (zv (z:=(((v+1):Nat):Int)) rfl rfl (w64 om))<|e_mv rfl<|zi<|zQ ((v+1),dm2,K++W,p7,c8,(out++[W])) (show (v+1)≤nv∧ym dm2 (K++W)∧Ms.LInv (fun jj=>mget bm1 jj) nv (v+1) (K++W) (out++[W]) from by exact ⟨by omega,hM2,hL.step (fun h=>hsk (h.imp id (fun hk=>by rw [hM.get];simpa using hk))) hW (hM2.yes hst)⟩) (by show nv - (v+1)<nv - v;omega) ((.e rfl (by simp) (.of rfl)):SubM _ _) (ho:=((.e (i:=2) rfl cgs (.of [2,2,2] rfl)):PickO _ _ _)) ((.of [2,3] rfl):SelR _ _ _)
    ·
     have hnx:=hB.rng hg (a:=a) om
     rw [hnv] at hnx
     refine zw<|zc<|zf<|za<|e_mv rfl<|e_mv rfl<|zna 2 rfl rfl rfl (zT (a0:=a) (v:=true) ky3 Try.underlying61 rfl rfl rfl (ze.2 om)) (fun _=>(.s (.s .z))) (fun _ _=> ?_)
     refine zi<|zc<|za<|e_mv rfl<|e_mv rfl<|zwa rfl rfl (zt (enc:=fun z:Int=>[.int .i64 z]) (ok:=InK .i64) (h1:=fun _=>rfl) (h2:=fun _=>rfl) (k:=1) Try.underlying22 inf3 rfl dd dd dd (.c (x:=a) rfl rfl (fun _ _=>by exact ze.2 om) .n)) (fun b9 _=> ?_)
     refine zua 0 rfl .z<|zna 1 rfl rfl rfl (zea 0 rfl Try.underlying22 inf3 dd rfl rfl (by first|rfl|assumption|(simp;done)|omega) rfl (by first|rfl|assumption|(simp;done)|omega) om om) (fun _=>(.s .z)) ?_
     rintro ⟨p10,c11⟩ -
     dsimp only [aq,nq,cq]
     refine e_p (zd rfl)<|zi<|zB<|zc<|za<|e_mv rfl<|e_mv rfl<|e_ru (zfa (z:=0) (a0:=a) (v:= .int .i64 ((mget bm1 a).getD 0)) 4 rfl ky3 Try.underlying65 zr3 rfl rfl (ze.2 om) rfl)<|e_p (zd rfl)<|zi<|zQ (mput dm2 a true,p10,c11,(W++[a]),((mget bm1 a).getD 0)) (show ym (mput dm2 a true) (K++(W++[a]))∧Ms.WInv (fun jj=>mget bm1 jj) nv K (v:Int) (W++[a]) ((mget bm1 a).getD 0) from by exact ⟨by rw [← List.append_assoc];exact hM2.step (hM2.no hst),hW.step (hM2.no hst) hnx⟩) (by have:=(hW.step (hM2.no hst) hnx).len;simp only [List.length_append,List.length_cons,List.length_nil] at *;omega) ((.c rfl (.e rfl (by simp) (.of rfl))):SubM _ _) (ho:=((.e (i:=1) rfl cgs (.of [1,1,1,1] rfl)):PickO _ _ _)) ((.of [1,2] rfl):SelR _ _ _)
 ·
  refine zP<|zj<|zj<|zo<|zc<|zf<|za<|e_mv rfl<|e_p (zd rfl)<|zi<|zc<|zU ?_
  have hvn:v=nv:=by omega
  subst hvn
  have hfin:=hL.fin
  refine zVa 0 rfl .z ?_
  exact zO Try.results22 (p,c,bm1) hB (zx rfl) (by rw [hfin]) (ho:=oN) ((.e (j:=0) rfl (by rw [hfin]) .n):SelR _ _ _)
end Go.Proofs.Ytpdbimfnhglhpaa.Sp
namespace Go.Proofs.Ytpdbimfnhglhpaa.Sp
open Go
set_option linter.unusedVariables false
set_option maxRecDepth 100000
set_option maxHeartbeats 8000000
theorem zpc {pv:Option Addr} {nv:Nat} {cv:Nat} {V:List (Int×Int×Int)} {pf:Option Addr} {nf:Nat} {cf:Nat} {F:List (Int×Int×Int)} (hnv:V.length=nv) (hnf:F.length=nf):Con Try.prog 10 [.agg #[.slice pv nv cv,.slice pf nf cf]] [] [slF (rI3 .i64) pv cv V,slF (rI3 .i64) pf cf F] (Y:=(Option Addr)×Nat×(List (Int×Int))) (fun y=>yj V F=0→Ms.BMap F y.2.2) (fun y=> .tuple #[.slice (y.1) ((yo V F y.2.2).length) (y.2.1),.int .i64 (yj V F)]) (fun y=>[]) (fun y=>[slF (rS (rI .i64)) (y.1) (y.2.1) (yo V F y.2.2)]):=by
 refine zC Try.func10 rfl rfl rfl (fun c=> ?_)
 show RunC _ _ _ _ _ [(0,.agg #[.slice pv nv cv,.slice pf nf cf])] [] [slF (rI3 .i64) pv cv V,slF (rI3 .i64) pf cf F]
 refine zpa 0 rfl (fun hL0=> ?_)
 refine zpa 1 rfl (fun hL1=> ?_)
 refine zf<|za<|zZ rfl rfl (zka rfl rfl) (fun b1=> ?_)
 refine e_p (zd rfl)<|e_p (zd rfl)<|zi<|zc<|zf<|zf<|za<|e_ru (zm 0 ty32 rfl rfl (.t2 .nil))<|zia rfl rfl (.c rfl .n) ce13 (zbb (pv:=pv) (nv:=nv) (cv:=cv) (V:=V) (pf:=pf) (nf:=nf) (cf:=cf) (F:=F) (hnv:=ass) (hnf:=ass)) (.c (j:=0) rfl (.c (j:=1) rfl .n))<|e_p (zd rfl)<|zi<|zc<|zf<|za<|e_mv rfl<|e_p (zOa rfl rfl)<|zi<|zc<|zG rfl (fun hcode=> ?_) (fun hcode=> ?_)
 ·
  refine zf<|za<|e_mv rfl<|e_p (zd rfl)<|e_p (zd rfl)<|zi<|zc<|zU<|zl ?_
  have hz:yo V F []=[]:=by unfold yo;rw [if_neg hcode]
  refine zHc (rS (rI .i64)) ?_
  exact zLa Try.results10 (none,0,[]) (fun h=>absurd h hcode) (zx rfl) (zx rfl) (by rw [hz];rfl) (ho:=oN) ((.e (j:=0) rfl (by rw [hz]) .n):SelR _ _ _)
 ·
  have hc0:=Decidable.not_not.1 hcode
  have hf0:=yz hc0
  have hg:=yq.1 hf0
  have hnv5:nv≤512:=by have:=hg.nv;omega
  have hnf5:nf≤1024:=by have:=hg.nf;omega
  refine zw<|zc<|zf<|za<|e_ru (zm 0 ty32 rfl rfl (.t2 .nil))<|zFa rfl rfl (.c rfl .n) ce22 (zUc (pv:=pv) (nv:=nv) (cv:=cv) (V:=V) (pf:=pf) (nf:=nf) (cf:=cf) (F:=F) (hnv:=ass) (hnf:=ass) (hg:=cbb)) (.c (j:=0) rfl (.c (j:=1) rfl .n)) ?_
  rintro ⟨p22,c23,bm1⟩ hB
  dsimp only [aq,nq,cq]
  replace hB:Ms.BMap F bm1:=hB
  refine e_p (zd rfl)<|e_p (zd rfl)<|zi<|zc<|zU ?_
  have hz:yo V F bm1=Ms.loops (fun jj=>mget bm1 jj) nv:=by unfold yo;rw [if_pos hc0,hnv]
  exact zLa Try.results10 (p22,c23,bm1) (fun _=>hB) (zx rfl) (zx rfl) (by rw [hz,hc0]) (ho:=oN) ((.e (j:=0) rfl (by rw [hz]) .n):SelR _ _ _)
end Go.Proofs.Ytpdbimfnhglhpaa.Sp
namespace Go.Proofs.Ytpdbimfnhglhpaa.Sp
open Go
set_option linter.unusedVariables false
set_option maxRecDepth 100000
set_option maxHeartbeats 8000000
theorem zdc {pv:Option Addr} {nv:Nat} {cv:Nat} {V:List (Int×Int×Int)} {pf:Option Addr} {nf:Nat} {cf:Nat} {F:List (Int×Int×Int)} (hnv:V.length=nv) (hnf:F.length=nf) (hg:Ms.Good V F):Con Try.prog 21 [.agg #[.slice pv nv cv,.slice pf nf cf]] [] [slF (rI3 .i64) pv cv V,slF (rI3 .i64) pf cf F] (Y:=Nat×(List ((Int×Int)×Tri))) (fun y=>Raw y.2 (ye F)) (fun y=> .map (some y.1)) (fun y=>[mapA y.1 (fun z:Int×Int=> .agg #[.int .i64 z.1,.int .i64 z.2]) (fun z:Option Addr×Nat×Nat=> .slice z.1 z.2.1 z.2.2) (fun z=>InK .i64 z.1∧InK .i64 z.2) (y.2)]) (fun y=>[rawF (rI .i64) (y.2) (ye F)]):=by
 refine zC Try.func21 rfl rfl rfl (fun c=> ?_)
 show RunC _ _ _ _ _ [(0,.agg #[.slice pv nv cv,.slice pf nf cf])] [] [slF (rI3 .i64) pv cv V,slF (rI3 .i64) pf cf F]
 refine zpa 0 rfl (fun hL0=> ?_)
 refine zpa 1 rfl (fun hL1=> ?_)
 have hnv5:nv≤512:=by have:=hg.nv;omega
 have hnf5:nf≤1024:=by have:=hg.nf;omega
 refine zf<|za<|zZ rfl rfl (zka rfl rfl) (fun b1=> ?_)
 refine e_p (zd rfl)<|zi<|zc<|zf<|za<|zwa rfl rfl (zla (κ:=Int×Int) (ν:=Option Addr×Nat×Nat) (fun z:Int×Int=> .agg #[.int .i64 z.1,.int .i64 z.2]) (fun z:Option Addr×Nat×Nat=> .slice z.1 z.2.1 z.2.2) (fun z=>InK .i64 z.1∧InK .i64 z.2)) (fun b2 _=> ?_)
 refine e_p (zd rfl)<|zi<|zc<|zf<|zf<|zob (fun w mm=>mm.mrNew 3 (rI .i64))<|za<|e_p (zg Try.underlying32 rfl sz30 rfl rfl)<|e_ru (zb 1 ty30 rfl rfl rfl)<|e_p (zR Try.underlying30 rfl)<|e_mv rfl<|zi<|zc<|zq<|zY (X:=Nat) (fun x:Nat=>x≤nf) (fun x=>[(12,.int .i64 ((x:Nat):Int)),(11,.int .i64 ((nf:Nat):Int)),(10,.slice pf nf cf),(3,.map (some b2)),(2,.map none)]) (fun x=>[mrA b2 (fun z:Int×Int=> .agg #[.int .i64 z.1,.int .i64 z.2]) (fun z=>InK .i64 z.1∧InK .i64 z.2) 3 (rI .i64) (ye (F.take x)),boxA b1 32 [.slice pv nv cv,.slice pf nf cf]]) (fun x=>[slF (rI3 .i64) pv cv V,slF (rI3 .i64) pf cf F]) (fun x:Nat=>nf - x) 0 (show 0≤nf from by exact Nat.zero_le _) ((.e rfl cgs (.of rfl)):SubM _ _) (ho:=((.e (i:=0) rfl (by rfl) (.c (i:=0) rfl .n)):PickO _ _ _)) ((.of [0,1] rfl):SelR _ _ _) ?_
 rintro i hI
 replace hI:i≤nf:=hI
 try dsimp only
 refine zf<|za<|e_p (zD rfl rfl)<|zi<|zc<|zf<|zG rfl (fun h3=> ?_) (fun h3=> ?_)
 ·
  have hat:=hg.at (show i<F.length by omega)
  have hsl0:=Ms.sides_len (F.take i)
  rw [List.length_take] at hsl0
  refine zw<|zc<|zf<|zq<|zf<|za<|e_mv rfl<|zM (x0:=(F.getD i (0,0,0))) 1 i rfl Try.underlying30 sz35 rfl rfl rfl (by first|rfl|assumption|(simp;done)|omega) rfl rfl (gD (d:=(0,0,0)) om) (fun b4 o5 hok6=> ?_)
  obtain ⟨hok6x,hok6y,hok6z⟩:=hok6
  replace hok6x:=ze.1 hok6x
  replace hok6y:=ze.1 hok6y
  replace hok6z:=ze.1 hok6z
  refine e_ru (zJ (j:=0) 0 ty35 rfl rfl rfl (.t2 (.take .nil)))<|zZ rfl rfl (zF zr35 rfl) (fun b7=> ?_)
  refine e_p (zd rfl)<|zE 0 rfl rfl rfl rfl rfl sz35 rfl (.t2 (.take .nil)) .z<|zi<|zc<|zf<|za<|e_ru (zm 0 ty35 rfl rfl (.t2 (.take .nil)))<|zia rfl rfl (.c rfl .n) ce26 (zBb (ex:=(F.getD i (0,0,0)).1) (ey:=(F.getD i (0,0,0)).2.1) (ez:=(F.getD i (0,0,0)).2.2)) (.n)<|e_mv rfl<|zi<|zc<|zq<|zeb<|zX<|zf<|za<|e_p (zD rfl rfl)<|zi<|zc<|zf<|zW rfl rfl<|zw<|zc<|zf<|zq<|zf<|za<|e_p (zga (i:=0) Try.underlying73 ty68 rfl rfl dd (.t2 .nil))<|zZ rfl rfl (zF zr68 rfl) (fun b8=> ?_)
  refine zE 0 rfl rfl rfl rfl rfl sz68 rfl (.t2 .nil) .z<|zi<|zc<|zvc (fun w mm=>mm.mrOpen 2 ((min ((F.getD i (0,0,0)).1) ((F.getD i (0,0,0)).2.1)),(max ((F.getD i (0,0,0)).1) ((F.getD i (0,0,0)).2.1))) rfl) ?_
  rintro ⟨raw0,pz0,cz0⟩ ⟨hraw0,hgt0⟩
  dsimp only [List.eraseIdx] at hgt0 ⊢
  obtain ⟨lz0,hlz0⟩:∃z,z=(mget (ye (F.take i)) ((min ((F.getD i (0,0,0)).1) ((F.getD i (0,0,0)).2.1)),(max ((F.getD i (0,0,0)).1) ((F.getD i (0,0,0)).2.1)))).getD []:=⟨_,rfl⟩
  rw [← hlz0] at hgt0 ⊢
  have hlb0:lz0.length≤4000:=by have h9:=hsl0 ((min ((F.getD i (0,0,0)).1) ((F.getD i (0,0,0)).2.1)),(max ((F.getD i (0,0,0)).1) ((F.getD i (0,0,0)).2.1)));rw [← hlz0] at h9;omega
  refine zWa (.c (i:=1) rfl (.c (i:=0) rfl (.c (i:=0) rfl (.c (i:=0) rfl (.c (i:=0) rfl (.c (i:=0) rfl .n))))))<|zsa (OW:=[rowA 3 (rI .i64) pz0 cz0 lz0,mapA b2 (fun z:Int×Int=> .agg #[.int .i64 z.1,.int .i64 z.2]) (fun z:Option Addr×Nat×Nat=> .slice z.1 z.2.1 z.2.2) (fun z=>InK .i64 z.1∧InK .i64 z.2) raw0]) (O:=[allA (mrest 3 (rI .i64) ((min ((F.getD i (0,0,0)).1) ((F.getD i (0,0,0)).2.1)),(max ((F.getD i (0,0,0)).1) ((F.getD i (0,0,0)).2.1))) raw0 (ye (F.take i))),boxA b8 68 [.int .i64 ((F.getD i (0,0,0)).1),.int .i64 ((F.getD i (0,0,0)).2.1)],boxA b7 35 [.int .i64 ((F.getD i (0,0,0)).1),.int .i64 ((F.getD i (0,0,0)).2.1),.int .i64 ((F.getD i (0,0,0)).2.2)],boxA b1 32 [.slice pv nv cv,.slice pf nf cf]]) 9 mixed (.block (.then (.then (.block (.block (.then (.then (.block (.then .ret))))))))) kr<|e_dm 0 rfl rfl rfl<|e_uw 1 rfl rfl (zm 3 ty68 rfl rfl (.t2 .nil))<|e_dm 3 rfl rfl rfl<|e_uw 4 rfl rfl (zm 3 ty68 rfl rfl (.t2 .nil))<|e_dm 7 rfl rfl rfl<|zIb (m':=[(29,.int .i64 ((i:Nat):Int)),(26,.agg #[.int .i64 ((F.getD i (0,0,0)).1),.int .i64 ((F.getD i (0,0,0)).2.1)]),(25,.map (some b2)),(23,.agg #[.int .i64 ((F.getD i (0,0,0)).1),.int .i64 ((F.getD i (0,0,0)).2.1)]),(22,.map (some b2)),(7,.pointer (some ⟨b8,0,none⟩)),(21,.agg #[.int .i64 ((F.getD i (0,0,0)).1),.int .i64 ((F.getD i (0,0,0)).2.1)]),(20,.bool true),(19,.int .i64 0),(18,.agg #[.int .i64 ((F.getD i (0,0,0)).1),.int .i64 ((F.getD i (0,0,0)).2.1),.int .i64 ((F.getD i (0,0,0)).2.1),.int .i64 ((F.getD i (0,0,0)).2.2),.int .i64 ((F.getD i (0,0,0)).2.2),.int .i64 ((F.getD i (0,0,0)).1)]),(4,.int .i64 ((i:Nat):Int)),(12,.int .i64 ((i:Nat):Int)),(11,.int .i64 ((nf:Nat):Int)),(10,.slice pf nf cf),(3,.map (some b2)),(2,.map none)]) (R':=[slF (rI3 .i64) pv cv V,slF (rI3 .i64) pf cf F]) (mR rfl) (List.Perm.refl _) (List.Perm.refl _) ((.of [1,2] rfl):SelR _ _ _)<|zaa (X:=Nat×Option Addr×Nat) (k':=0) (L':=(lb 11 2047)) (fun (u8_1,u9_1,u9_2)=>([(31,.slice u9_1 (lz0.length+1) u9_2),(30,.slice (some ⟨u8_1,0,none⟩) 1 1),(28,.slice pz0 (lz0.length) cz0),(27,.agg #[.int .i64 (min ((F.getD i (0,0,0)).1) ((F.getD i (0,0,0)).2.1)),.int .i64 (max ((F.getD i (0,0,0)).1) ((F.getD i (0,0,0)).2.1))]),(24,.agg #[.int .i64 (min ((F.getD i (0,0,0)).1) ((F.getD i (0,0,0)).2.1)),.int .i64 (max ((F.getD i (0,0,0)).1) ((F.getD i (0,0,0)).2.1))]),(29,.int .i64 ((i:Nat):Int)),(26,.agg #[.int .i64 ((F.getD i (0,0,0)).1),.int .i64 ((F.getD i (0,0,0)).2.1)]),(25,.map (some b2)),(23,.agg #[.int .i64 ((F.getD i (0,0,0)).1),.int .i64 ((F.getD i (0,0,0)).2.1)]),(22,.map (some b2)),(7,.pointer (some ⟨b8,0,none⟩)),(21,.agg #[.int .i64 ((F.getD i (0,0,0)).1),.int .i64 ((F.getD i (0,0,0)).2.1)]),(20,.bool true),(19,.int .i64 0),(18,.agg #[.int .i64 ((F.getD i (0,0,0)).1),.int .i64 ((F.getD i (0,0,0)).2.1),.int .i64 ((F.getD i (0,0,0)).2.1),.int .i64 ((F.getD i (0,0,0)).2.2),.int .i64 ((F.getD i (0,0,0)).2.2),.int .i64 ((F.getD i (0,0,0)).1)]),(4,.int .i64 ((i:Nat):Int)),(12,.int .i64 ((i:Nat):Int)),(11,.int .i64 ((nf:Nat):Int)),(10,.slice pf nf cf),(3,.map (some b2)),(2,.map none)],[mapA b2 (fun z:Int×Int=> .agg #[.int .i64 z.1,.int .i64 z.2]) (fun z:Option Addr×Nat×Nat=> .slice z.1 z.2.1 z.2.2) (fun z=>InK .i64 z.1∧InK .i64 z.2) (mput raw0 ((min ((F.getD i (0,0,0)).1) ((F.getD i (0,0,0)).2.1)),(max ((F.getD i (0,0,0)).1) ((F.getD i (0,0,0)).2.1))) (u9_1,lz0.length+1,u9_2)),rowA 3 (rI .i64) u9_1 u9_2 (lz0++([((i:Nat):Int)]))],[emA,allA (mrest 3 (rI .i64) ((min ((F.getD i (0,0,0)).1) ((F.getD i (0,0,0)).2.1)),(max ((F.getD i (0,0,0)).1) ((F.getD i (0,0,0)).2.1))) raw0 (ye (F.take i))),boxA b8 68 [.int .i64 ((F.getD i (0,0,0)).1),.int .i64 ((F.getD i (0,0,0)).2.1)],boxA b7 35 [.int .i64 ((F.getD i (0,0,0)).1),.int .i64 ((F.getD i (0,0,0)).2.1),.int .i64 ((F.getD i (0,0,0)).2.2)],boxA b1 32 [.slice pv nv cv,.slice pf nf cf]],[slF (rI .i64) (some ⟨u8_1,0,none⟩) 1 ([((i:Nat):Int)]),slF (rI3 .i64) pv cv V,slF (rI3 .i64) pf cf F])) ?_ (fun hD0=> ?_)
  ·
   rintro ⟨u8_1,u9_1,u9_2⟩
   dsimp only
   refine zra kr<|zB<|zc<|zob (fun w mm=>(mm.perm (zta 0 rfl (zta 0 rfl (zta 1 rfl (List.Perm.refl _))))).mrClose (xs:=(lz0++([((i:Nat):Int)]))) ((min ((F.getD i (0,0,0)).1) ((F.getD i (0,0,0)).2.1)),(max ((F.getD i (0,0,0)).1) ((F.getD i (0,0,0)).2.1))) hraw0 (by simp)) ?_
   try dsimp only [List.eraseIdx]
   obtain ⟨Mq0,hMq0⟩:∃z,z=Ms.sideS (ye (F.take i)) (Ms.pl (((F.getD i (0,0,0)).1),((F.getD i (0,0,0)).2.1)),((i:Nat):Int)):=⟨_,rfl⟩
   rw [show mput (ye (F.take i)) ((min ((F.getD i (0,0,0)).1) ((F.getD i (0,0,0)).2.1)),(max ((F.getD i (0,0,0)).1) ((F.getD i (0,0,0)).2.1))) (lz0++([((i:Nat):Int)]))=Mq0 by rw [hMq0,hlz0];rfl]
   have hsl1:=Ms.sideS_len hsl0 (Ms.pl (((F.getD i (0,0,0)).1),((F.getD i (0,0,0)).2.1)),((i:Nat):Int))
   rw [← hMq0] at hsl1
   refine za<|e_p (zv (z:=1) rfl rfl (w64 dd))<|e_mv rfl<|zi<|zja<|zX<|zf<|za<|e_p (zD rfl rfl)<|zi<|zc<|zf<|zW rfl rfl<|zw<|zc<|zf<|zq<|zf<|za<|e_p (zga (i:=1) Try.underlying73 ty68 rfl rfl dd (.s2 (.t2 .nil)))<|zZ rfl rfl (zF zr68 rfl) (fun b9=> ?_)
   refine zE 0 rfl rfl rfl rfl rfl sz68 rfl (.t2 .nil) .z<|zi<|zc<|zvc (fun w mm=>mm.mrOpen 1 ((min ((F.getD i (0,0,0)).2.1) ((F.getD i (0,0,0)).2.2)),(max ((F.getD i (0,0,0)).2.1) ((F.getD i (0,0,0)).2.2))) rfl) ?_
   rintro ⟨raw1,pz1,cz1⟩ ⟨hraw1,hgt1⟩
   dsimp only [List.eraseIdx] at hgt1 ⊢
   obtain ⟨lz1,hlz1⟩:∃z,z=(mget Mq0 ((min ((F.getD i (0,0,0)).2.1) ((F.getD i (0,0,0)).2.2)),(max ((F.getD i (0,0,0)).2.1) ((F.getD i (0,0,0)).2.2)))).getD []:=⟨_,rfl⟩
   rw [← hlz1] at hgt1 ⊢
   have hlb1:lz1.length≤4000:=by have h9:=hsl1 ((min ((F.getD i (0,0,0)).2.1) ((F.getD i (0,0,0)).2.2)),(max ((F.getD i (0,0,0)).2.1) ((F.getD i (0,0,0)).2.2)));rw [← hlz1] at h9;omega
   refine zWa (.c (i:=1) rfl (.c (i:=0) rfl (.c (i:=0) rfl (.c (i:=0) rfl (.c (i:=0) rfl (.c (i:=0) rfl (.c (i:=0) rfl (.c (i:=0) rfl .n))))))))<|zsa (OW:=[rowA 3 (rI .i64) pz1 cz1 lz1,mapA b2 (fun z:Int×Int=> .agg #[.int .i64 z.1,.int .i64 z.2]) (fun z:Option Addr×Nat×Nat=> .slice z.1 z.2.1 z.2.2) (fun z=>InK .i64 z.1∧InK .i64 z.2) raw1]) (O:=[allA (mrest 3 (rI .i64) ((min ((F.getD i (0,0,0)).2.1) ((F.getD i (0,0,0)).2.2)),(max ((F.getD i (0,0,0)).2.1) ((F.getD i (0,0,0)).2.2))) raw1 Mq0),boxA b9 68 [.int .i64 ((F.getD i (0,0,0)).2.1),.int .i64 ((F.getD i (0,0,0)).2.2)],emA,boxA b8 68 [.int .i64 ((F.getD i (0,0,0)).1),.int .i64 ((F.getD i (0,0,0)).2.1)],boxA b7 35 [.int .i64 ((F.getD i (0,0,0)).1),.int .i64 ((F.getD i (0,0,0)).2.1),.int .i64 ((F.getD i (0,0,0)).2.2)],boxA b1 32 [.slice pv nv cv,.slice pf nf cf]]) 9 mixed (.block (.then (.then (.block (.block (.then (.then (.block (.then .ret))))))))) kr<|e_dm 0 rfl rfl rfl<|e_uw 1 rfl rfl (zm 3 ty68 rfl rfl (.t2 .nil))<|e_dm 3 rfl rfl rfl<|e_uw 4 rfl rfl (zm 3 ty68 rfl rfl (.t2 .nil))<|e_dm 7 rfl rfl rfl<|zIb (m':=[(29,.int .i64 ((i:Nat):Int)),(26,.agg #[.int .i64 ((F.getD i (0,0,0)).2.1),.int .i64 ((F.getD i (0,0,0)).2.2)]),(25,.map (some b2)),(23,.agg #[.int .i64 ((F.getD i (0,0,0)).2.1),.int .i64 ((F.getD i (0,0,0)).2.2)]),(22,.map (some b2)),(7,.pointer (some ⟨b9,0,none⟩)),(21,.agg #[.int .i64 ((F.getD i (0,0,0)).2.1),.int .i64 ((F.getD i (0,0,0)).2.2)]),(20,.bool true),(19,.int .i64 1),(32,.int .i64 1),(31,.slice u9_1 (lz0.length+1) u9_2),(30,.slice (some ⟨u8_1,0,none⟩) 1 1),(28,.slice pz0 (lz0.length) cz0),(27,.agg #[.int .i64 (min ((F.getD i (0,0,0)).1) ((F.getD i (0,0,0)).2.1)),.int .i64 (max ((F.getD i (0,0,0)).1) ((F.getD i (0,0,0)).2.1))]),(24,.agg #[.int .i64 (min ((F.getD i (0,0,0)).1) ((F.getD i (0,0,0)).2.1)),.int .i64 (max ((F.getD i (0,0,0)).1) ((F.getD i (0,0,0)).2.1))]),(18,.agg #[.int .i64 ((F.getD i (0,0,0)).1),.int .i64 ((F.getD i (0,0,0)).2.1),.int .i64 ((F.getD i (0,0,0)).2.1),.int .i64 ((F.getD i (0,0,0)).2.2),.int .i64 ((F.getD i (0,0,0)).2.2),.int .i64 ((F.getD i (0,0,0)).1)]),(4,.int .i64 ((i:Nat):Int)),(12,.int .i64 ((i:Nat):Int)),(11,.int .i64 ((nf:Nat):Int)),(10,.slice pf nf cf),(3,.map (some b2)),(2,.map none)]) (R':=[slF (rI .i64) (some ⟨u8_1,0,none⟩) 1 ([((i:Nat):Int)]),slF (rI3 .i64) pv cv V,slF (rI3 .i64) pf cf F]) (mR rfl) (List.Perm.refl _) (List.Perm.refl _) ((.of [0,1,2] rfl):SelR _ _ _) ?_
   obtain ⟨qd1,hqd1⟩:∃z:Int,z=(min ((F.getD i (0,0,0)).1) ((F.getD i (0,0,0)).2.1)):=⟨_,rfl⟩
   rw [← hqd1]
   obtain ⟨qd2,hqd2⟩:∃z:Int,z=(max ((F.getD i (0,0,0)).1) ((F.getD i (0,0,0)).2.1)):=⟨_,rfl⟩
   rw [← hqd2]
   refine zaa (X:=Nat×Option Addr×Nat) (k':=0) (L':=(lb 11 2047)) (fun (u8_1r2,u9_1r2,u9_2r2)=>([(31,.slice u9_1r2 (lz1.length+1) u9_2r2),(30,.slice (some ⟨u8_1r2,0,none⟩) 1 1),(28,.slice pz1 (lz1.length) cz1),(27,.agg #[.int .i64 (min ((F.getD i (0,0,0)).2.1) ((F.getD i (0,0,0)).2.2)),.int .i64 (max ((F.getD i (0,0,0)).2.1) ((F.getD i (0,0,0)).2.2))]),(24,.agg #[.int .i64 (min ((F.getD i (0,0,0)).2.1) ((F.getD i (0,0,0)).2.2)),.int .i64 (max ((F.getD i (0,0,0)).2.1) ((F.getD i (0,0,0)).2.2))]),(29,.int .i64 ((i:Nat):Int)),(26,.agg #[.int .i64 ((F.getD i (0,0,0)).2.1),.int .i64 ((F.getD i (0,0,0)).2.2)]),(25,.map (some b2)),(23,.agg #[.int .i64 ((F.getD i (0,0,0)).2.1),.int .i64 ((F.getD i (0,0,0)).2.2)]),(22,.map (some b2)),(7,.pointer (some ⟨b9,0,none⟩)),(21,.agg #[.int .i64 ((F.getD i (0,0,0)).2.1),.int .i64 ((F.getD i (0,0,0)).2.2)]),(20,.bool true),(19,.int .i64 1),(32,.int .i64 1),(18,.agg #[.int .i64 ((F.getD i (0,0,0)).1),.int .i64 ((F.getD i (0,0,0)).2.1),.int .i64 ((F.getD i (0,0,0)).2.1),.int .i64 ((F.getD i (0,0,0)).2.2),.int .i64 ((F.getD i (0,0,0)).2.2),.int .i64 ((F.getD i (0,0,0)).1)]),(4,.int .i64 ((i:Nat):Int)),(12,.int .i64 ((i:Nat):Int)),(11,.int .i64 ((nf:Nat):Int)),(10,.slice pf nf cf),(3,.map (some b2)),(2,.map none)],[mapA b2 (fun z:Int×Int=> .agg #[.int .i64 z.1,.int .i64 z.2]) (fun z:Option Addr×Nat×Nat=> .slice z.1 z.2.1 z.2.2) (fun z=>InK .i64 z.1∧InK .i64 z.2) (mput raw1 ((min ((F.getD i (0,0,0)).2.1) ((F.getD i (0,0,0)).2.2)),(max ((F.getD i (0,0,0)).2.1) ((F.getD i (0,0,0)).2.2))) (u9_1r2,lz1.length+1,u9_2r2)),rowA 3 (rI .i64) u9_1r2 u9_2r2 (lz1++([((i:Nat):Int)]))],[emA,allA (mrest 3 (rI .i64) ((min ((F.getD i (0,0,0)).2.1) ((F.getD i (0,0,0)).2.2)),(max ((F.getD i (0,0,0)).2.1) ((F.getD i (0,0,0)).2.2))) raw1 Mq0),boxA b9 68 [.int .i64 ((F.getD i (0,0,0)).2.1),.int .i64 ((F.getD i (0,0,0)).2.2)],emA,boxA b8 68 [.int .i64 ((F.getD i (0,0,0)).1),.int .i64 ((F.getD i (0,0,0)).2.1)],boxA b7 35 [.int .i64 ((F.getD i (0,0,0)).1),.int .i64 ((F.getD i (0,0,0)).2.1),.int .i64 ((F.getD i (0,0,0)).2.2)],boxA b1 32 [.slice pv nv cv,.slice pf nf cf]],[slF (rI .i64) (some ⟨u8_1r2,0,none⟩) 1 ([((i:Nat):Int)]),slF (rI .i64) (some ⟨u8_1,0,none⟩) 1 ([((i:Nat):Int)]),slF (rI3 .i64) pv cv V,slF (rI3 .i64) pf cf F])) ?_ (fun hD0=> ?_)
   ·
    rintro ⟨u8_1r2,u9_1r2,u9_2r2⟩
    dsimp only
    refine zra kr ?_
    subst hqd1 hqd2
    refine zB<|zc<|zob (fun w mm=>(mm.perm (zta 0 rfl (zta 0 rfl (zta 1 rfl (List.Perm.refl _))))).mrClose (xs:=(lz1++([((i:Nat):Int)]))) ((min ((F.getD i (0,0,0)).2.1) ((F.getD i (0,0,0)).2.2)),(max ((F.getD i (0,0,0)).2.1) ((F.getD i (0,0,0)).2.2))) hraw1 (by simp)) ?_
    try dsimp only [List.eraseIdx]
    obtain ⟨Mq1,hMq1⟩:∃z,z=Ms.sideS Mq0 (Ms.pl (((F.getD i (0,0,0)).2.1),((F.getD i (0,0,0)).2.2)),((i:Nat):Int)):=⟨_,rfl⟩
    rw [show mput Mq0 ((min ((F.getD i (0,0,0)).2.1) ((F.getD i (0,0,0)).2.2)),(max ((F.getD i (0,0,0)).2.1) ((F.getD i (0,0,0)).2.2))) (lz1++([((i:Nat):Int)]))=Mq1 by rw [hMq1,hlz1];rfl]
    have hsl2:=Ms.sideS_len hsl1 (Ms.pl (((F.getD i (0,0,0)).2.1),((F.getD i (0,0,0)).2.2)),((i:Nat):Int))
    rw [← hMq1] at hsl2
    refine za<|e_p (zv (z:=2) rfl rfl (w64 dd))<|e_mv rfl<|zi<|zja<|zX<|zf<|za<|e_p (zD rfl rfl)<|zi<|zc<|zf<|zW rfl rfl<|zw<|zc<|zf<|zq<|zf<|za<|e_p (zga (i:=2) Try.underlying73 ty68 rfl rfl dd (.s4 (.t2 .nil)))<|zZ rfl rfl (zF zr68 rfl) (fun b10=> ?_)
    refine zE 0 rfl rfl rfl rfl rfl sz68 rfl (.t2 .nil) .z<|zi<|zc<|zvc (fun w mm=>mm.mrOpen 1 ((min ((F.getD i (0,0,0)).2.2) ((F.getD i (0,0,0)).1)),(max ((F.getD i (0,0,0)).2.2) ((F.getD i (0,0,0)).1))) rfl) ?_
    rintro ⟨raw2,pz2,cz2⟩ ⟨hraw2,hgt2⟩
    dsimp only [List.eraseIdx] at hgt2 ⊢
    obtain ⟨lz2,hlz2⟩:∃z,z=(mget Mq1 ((min ((F.getD i (0,0,0)).2.2) ((F.getD i (0,0,0)).1)),(max ((F.getD i (0,0,0)).2.2) ((F.getD i (0,0,0)).1)))).getD []:=⟨_,rfl⟩
    rw [← hlz2] at hgt2 ⊢
    have hlb2:lz2.length≤4000:=by have h9:=hsl2 ((min ((F.getD i (0,0,0)).2.2) ((F.getD i (0,0,0)).1)),(max ((F.getD i (0,0,0)).2.2) ((F.getD i (0,0,0)).1)));rw [← hlz2] at h9;omega
    refine zWa (.c (i:=1) rfl (.c (i:=0) rfl (.c (i:=0) rfl (.c (i:=0) rfl (.c (i:=0) rfl (.c (i:=0) rfl (.c (i:=0) rfl (.c (i:=0) rfl (.c (i:=0) rfl (.c (i:=0) rfl .n))))))))))<|zsa (OW:=[rowA 3 (rI .i64) pz2 cz2 lz2,mapA b2 (fun z:Int×Int=> .agg #[.int .i64 z.1,.int .i64 z.2]) (fun z:Option Addr×Nat×Nat=> .slice z.1 z.2.1 z.2.2) (fun z=>InK .i64 z.1∧InK .i64 z.2) raw2]) (O:=[allA (mrest 3 (rI .i64) ((min ((F.getD i (0,0,0)).2.2) ((F.getD i (0,0,0)).1)),(max ((F.getD i (0,0,0)).2.2) ((F.getD i (0,0,0)).1))) raw2 Mq1),boxA b10 68 [.int .i64 ((F.getD i (0,0,0)).2.2),.int .i64 ((F.getD i (0,0,0)).1)],emA,boxA b9 68 [.int .i64 ((F.getD i (0,0,0)).2.1),.int .i64 ((F.getD i (0,0,0)).2.2)],emA,boxA b8 68 [.int .i64 ((F.getD i (0,0,0)).1),.int .i64 ((F.getD i (0,0,0)).2.1)],boxA b7 35 [.int .i64 ((F.getD i (0,0,0)).1),.int .i64 ((F.getD i (0,0,0)).2.1),.int .i64 ((F.getD i (0,0,0)).2.2)],boxA b1 32 [.slice pv nv cv,.slice pf nf cf]]) 9 mixed (.block (.then (.then (.block (.block (.then (.then (.block (.then .ret))))))))) kr<|e_dm 0 rfl rfl rfl<|e_uw 1 rfl rfl (zm 3 ty68 rfl rfl (.t2 .nil))<|e_dm 3 rfl rfl rfl<|e_uw 4 rfl rfl (zm 3 ty68 rfl rfl (.t2 .nil))<|e_dm 7 rfl rfl rfl<|zIb (m':=[(29,.int .i64 ((i:Nat):Int)),(26,.agg #[.int .i64 ((F.getD i (0,0,0)).2.2),.int .i64 ((F.getD i (0,0,0)).1)]),(25,.map (some b2)),(23,.agg #[.int .i64 ((F.getD i (0,0,0)).2.2),.int .i64 ((F.getD i (0,0,0)).1)]),(22,.map (some b2)),(7,.pointer (some ⟨b10,0,none⟩)),(21,.agg #[.int .i64 ((F.getD i (0,0,0)).2.2),.int .i64 ((F.getD i (0,0,0)).1)]),(20,.bool true),(19,.int .i64 2),(32,.int .i64 2),(31,.slice u9_1r2 (lz1.length+1) u9_2r2),(30,.slice (some ⟨u8_1r2,0,none⟩) 1 1),(28,.slice pz1 (lz1.length) cz1),(27,.agg #[.int .i64 (min ((F.getD i (0,0,0)).2.1) ((F.getD i (0,0,0)).2.2)),.int .i64 (max ((F.getD i (0,0,0)).2.1) ((F.getD i (0,0,0)).2.2))]),(24,.agg #[.int .i64 (min ((F.getD i (0,0,0)).2.1) ((F.getD i (0,0,0)).2.2)),.int .i64 (max ((F.getD i (0,0,0)).2.1) ((F.getD i (0,0,0)).2.2))]),(18,.agg #[.int .i64 ((F.getD i (0,0,0)).1),.int .i64 ((F.getD i (0,0,0)).2.1),.int .i64 ((F.getD i (0,0,0)).2.1),.int .i64 ((F.getD i (0,0,0)).2.2),.int .i64 ((F.getD i (0,0,0)).2.2),.int .i64 ((F.getD i (0,0,0)).1)]),(4,.int .i64 ((i:Nat):Int)),(12,.int .i64 ((i:Nat):Int)),(11,.int .i64 ((nf:Nat):Int)),(10,.slice pf nf cf),(3,.map (some b2)),(2,.map none)]) (R':=[slF (rI .i64) (some ⟨u8_1r2,0,none⟩) 1 ([((i:Nat):Int)]),slF (rI .i64) (some ⟨u8_1,0,none⟩) 1 ([((i:Nat):Int)]),slF (rI3 .i64) pv cv V,slF (rI3 .i64) pf cf F]) (mR rfl) (List.Perm.refl _) (List.Perm.refl _) ((.of [0,1,2,3] rfl):SelR _ _ _) ?_
    obtain ⟨qd1,hqd1⟩:∃z:Int,z=(min ((F.getD i (0,0,0)).2.1) ((F.getD i (0,0,0)).2.2)):=⟨_,rfl⟩
    rw [← hqd1]
    obtain ⟨qd2,hqd2⟩:∃z:Int,z=(max ((F.getD i (0,0,0)).2.1) ((F.getD i (0,0,0)).2.2)):=⟨_,rfl⟩
    rw [← hqd2]
    refine zaa (X:=Nat×Option Addr×Nat) (k':=0) (L':=(lb 11 2047)) (fun (u8_1r3,u9_1r3,u9_2r3)=>([(31,.slice u9_1r3 (lz2.length+1) u9_2r3),(30,.slice (some ⟨u8_1r3,0,none⟩) 1 1),(28,.slice pz2 (lz2.length) cz2),(27,.agg #[.int .i64 (min ((F.getD i (0,0,0)).2.2) ((F.getD i (0,0,0)).1)),.int .i64 (max ((F.getD i (0,0,0)).2.2) ((F.getD i (0,0,0)).1))]),(24,.agg #[.int .i64 (min ((F.getD i (0,0,0)).2.2) ((F.getD i (0,0,0)).1)),.int .i64 (max ((F.getD i (0,0,0)).2.2) ((F.getD i (0,0,0)).1))]),(29,.int .i64 ((i:Nat):Int)),(26,.agg #[.int .i64 ((F.getD i (0,0,0)).2.2),.int .i64 ((F.getD i (0,0,0)).1)]),(25,.map (some b2)),(23,.agg #[.int .i64 ((F.getD i (0,0,0)).2.2),.int .i64 ((F.getD i (0,0,0)).1)]),(22,.map (some b2)),(7,.pointer (some ⟨b10,0,none⟩)),(21,.agg #[.int .i64 ((F.getD i (0,0,0)).2.2),.int .i64 ((F.getD i (0,0,0)).1)]),(20,.bool true),(19,.int .i64 2),(32,.int .i64 2),(18,.agg #[.int .i64 ((F.getD i (0,0,0)).1),.int .i64 ((F.getD i (0,0,0)).2.1),.int .i64 ((F.getD i (0,0,0)).2.1),.int .i64 ((F.getD i (0,0,0)).2.2),.int .i64 ((F.getD i (0,0,0)).2.2),.int .i64 ((F.getD i (0,0,0)).1)]),(4,.int .i64 ((i:Nat):Int)),(12,.int .i64 ((i:Nat):Int)),(11,.int .i64 ((nf:Nat):Int)),(10,.slice pf nf cf),(3,.map (some b2)),(2,.map none)],[mapA b2 (fun z:Int×Int=> .agg #[.int .i64 z.1,.int .i64 z.2]) (fun z:Option Addr×Nat×Nat=> .slice z.1 z.2.1 z.2.2) (fun z=>InK .i64 z.1∧InK .i64 z.2) (mput raw2 ((min ((F.getD i (0,0,0)).2.2) ((F.getD i (0,0,0)).1)),(max ((F.getD i (0,0,0)).2.2) ((F.getD i (0,0,0)).1))) (u9_1r3,lz2.length+1,u9_2r3)),rowA 3 (rI .i64) u9_1r3 u9_2r3 (lz2++([((i:Nat):Int)]))],[emA,allA (mrest 3 (rI .i64) ((min ((F.getD i (0,0,0)).2.2) ((F.getD i (0,0,0)).1)),(max ((F.getD i (0,0,0)).2.2) ((F.getD i (0,0,0)).1))) raw2 Mq1),boxA b10 68 [.int .i64 ((F.getD i (0,0,0)).2.2),.int .i64 ((F.getD i (0,0,0)).1)],emA,boxA b9 68 [.int .i64 ((F.getD i (0,0,0)).2.1),.int .i64 ((F.getD i (0,0,0)).2.2)],emA,boxA b8 68 [.int .i64 ((F.getD i (0,0,0)).1),.int .i64 ((F.getD i (0,0,0)).2.1)],boxA b7 35 [.int .i64 ((F.getD i (0,0,0)).1),.int .i64 ((F.getD i (0,0,0)).2.1),.int .i64 ((F.getD i (0,0,0)).2.2)],boxA b1 32 [.slice pv nv cv,.slice pf nf cf]],[slF (rI .i64) (some ⟨u8_1r3,0,none⟩) 1 ([((i:Nat):Int)]),slF (rI .i64) (some ⟨u8_1r2,0,none⟩) 1 ([((i:Nat):Int)]),slF (rI .i64) (some ⟨u8_1,0,none⟩) 1 ([((i:Nat):Int)]),slF (rI3 .i64) pv cv V,slF (rI3 .i64) pf cf F])) ?_ (fun hD0=> ?_)
    ·
     rintro ⟨u8_1r3,u9_1r3,u9_2r3⟩
     dsimp only
     refine zra kr ?_
     subst hqd1 hqd2
     refine zB<|zc<|zob (fun w mm=>(mm.perm (zta 0 rfl (zta 0 rfl (zta 1 rfl (List.Perm.refl _))))).mrClose (xs:=(lz2++([((i:Nat):Int)]))) ((min ((F.getD i (0,0,0)).2.2) ((F.getD i (0,0,0)).1)),(max ((F.getD i (0,0,0)).2.2) ((F.getD i (0,0,0)).1))) hraw2 (by simp)) ?_
     try dsimp only [List.eraseIdx]
     obtain ⟨Mq2,hMq2⟩:∃z,z=Ms.sideS Mq1 (Ms.pl (((F.getD i (0,0,0)).2.2),((F.getD i (0,0,0)).1)),((i:Nat):Int)):=⟨_,rfl⟩
     rw [show mput Mq1 ((min ((F.getD i (0,0,0)).2.2) ((F.getD i (0,0,0)).1)),(max ((F.getD i (0,0,0)).2.2) ((F.getD i (0,0,0)).1))) (lz2++([((i:Nat):Int)]))=Mq2 by rw [hMq2,hlz2];rfl]
     have hsl3:=Ms.sideS_len hsl2 (Ms.pl (((F.getD i (0,0,0)).2.2),((F.getD i (0,0,0)).1)),((i:Nat):Int))
     rw [← hMq2] at hsl3
     refine za<|e_p (zv (z:=3) rfl rfl (w64 dd))<|e_mv rfl<|zi<|zja<|zX<|zf<|za<|e_p (zD rfl rfl)<|zi<|zc<|zf<|zEa rfl rfl<|zP<|zj<|zj<|zo<|zB<|zc<|za<|e_p (zv (z:=(((i+1):Nat):Int)) rfl rfl (w64 om))<|e_mv rfl<|zi<|zQ (i+1) (show (i+1)≤nf from by exact (by omega:i+1≤nf)) (by show nf - (i+1)<nf - i;omega) (mR rfl) (ho:=((.e (i:=0) rfl (by rw [hMq2,hMq1,hMq0,Ms.sides_take om]) (.c (i:=7) rfl .n)):PickO _ _ _)) ((.of [3,4] rfl):SelR _ _ _)
    refine zaa (X:=Nat×Option Addr×Nat) (k':=1) (L':=(lb 11 1023)) (fun (u8_1r3,u9_1r3,u9_2r3)=>([(31,.slice u9_1r3 (lz2.length+1) u9_2r3),(30,.slice (some ⟨u8_1r3,0,none⟩) 1 1),(28,.slice pz2 (lz2.length) cz2),(27,.agg #[.int .i64 (min ((F.getD i (0,0,0)).2.2) ((F.getD i (0,0,0)).1)),.int .i64 (max ((F.getD i (0,0,0)).2.2) ((F.getD i (0,0,0)).1))]),(24,.agg #[.int .i64 (min ((F.getD i (0,0,0)).2.2) ((F.getD i (0,0,0)).1)),.int .i64 (max ((F.getD i (0,0,0)).2.2) ((F.getD i (0,0,0)).1))]),(29,.int .i64 ((i:Nat):Int)),(26,.agg #[.int .i64 ((F.getD i (0,0,0)).2.2),.int .i64 ((F.getD i (0,0,0)).1)]),(25,.map (some b2)),(23,.agg #[.int .i64 ((F.getD i (0,0,0)).2.2),.int .i64 ((F.getD i (0,0,0)).1)]),(22,.map (some b2)),(7,.pointer (some ⟨b10,0,none⟩)),(21,.agg #[.int .i64 ((F.getD i (0,0,0)).2.2),.int .i64 ((F.getD i (0,0,0)).1)]),(20,.bool true),(19,.int .i64 2),(32,.int .i64 2),(18,.agg #[.int .i64 ((F.getD i (0,0,0)).1),.int .i64 ((F.getD i (0,0,0)).2.1),.int .i64 ((F.getD i (0,0,0)).2.1),.int .i64 ((F.getD i (0,0,0)).2.2),.int .i64 ((F.getD i (0,0,0)).2.2),.int .i64 ((F.getD i (0,0,0)).1)]),(4,.int .i64 ((i:Nat):Int)),(12,.int .i64 ((i:Nat):Int)),(11,.int .i64 ((nf:Nat):Int)),(10,.slice pf nf cf),(3,.map (some b2)),(2,.map none)],[rowA 3 (rI .i64) u9_1r3 u9_2r3 (lz2++([((i:Nat):Int)])),mapA b2 (fun z:Int×Int=> .agg #[.int .i64 z.1,.int .i64 z.2]) (fun z:Option Addr×Nat×Nat=> .slice z.1 z.2.1 z.2.2) (fun z=>InK .i64 z.1∧InK .i64 z.2) raw2],[emA,allA (mrest 3 (rI .i64) ((min ((F.getD i (0,0,0)).2.2) ((F.getD i (0,0,0)).1)),(max ((F.getD i (0,0,0)).2.2) ((F.getD i (0,0,0)).1))) raw2 Mq1),boxA b10 68 [.int .i64 ((F.getD i (0,0,0)).2.2),.int .i64 ((F.getD i (0,0,0)).1)],emA,boxA b9 68 [.int .i64 ((F.getD i (0,0,0)).2.1),.int .i64 ((F.getD i (0,0,0)).2.2)],emA,boxA b8 68 [.int .i64 ((F.getD i (0,0,0)).1),.int .i64 ((F.getD i (0,0,0)).2.1)],boxA b7 35 [.int .i64 ((F.getD i (0,0,0)).1),.int .i64 ((F.getD i (0,0,0)).2.1),.int .i64 ((F.getD i (0,0,0)).2.2)],boxA b1 32 [.slice pv nv cv,.slice pf nf cf]],[slF (rI .i64) (some ⟨u8_1r3,0,none⟩) 1 ([((i:Nat):Int)]),slF (rI .i64) (some ⟨u8_1r2,0,none⟩) 1 ([((i:Nat):Int)]),slF (rI .i64) (some ⟨u8_1,0,none⟩) 1 ([((i:Nat):Int)]),slF (rI3 .i64) pv cv V,slF (rI3 .i64) pf cf F])) ?_ (fun hD1=> ?_)
    ·
     rintro ⟨u8_1r3,u9_1r3,u9_2r3⟩
     dsimp only
     refine zHa 10 kr ?_
     ·
      refine zZa (zK (i:=1) rfl)<|zcb (A':=fun _=>mapA b2 (fun z:Int×Int=> .agg #[.int .i64 z.1,.int .i64 z.2]) (fun z:Option Addr×Nat×Nat=> .slice z.1 z.2.1 z.2.2) (fun z=>InK .i64 z.1∧InK .i64 z.2) (mput raw2 ((min ((F.getD i (0,0,0)).2.2) ((F.getD i (0,0,0)).1)),(max ((F.getD i (0,0,0)).2.2) ((F.getD i (0,0,0)).1))) (u9_1r3,lz2.length+1,u9_2r3))) kr rfl rfl rfl (zT (a0:=((min ((F.getD i (0,0,0)).2.2) ((F.getD i (0,0,0)).1)),(max ((F.getD i (0,0,0)).2.2) ((F.getD i (0,0,0)).1)))) (v:=(u9_1r3,lz2.length+1,u9_2r3)) ky68 Try.underlying62 rfl rfl rfl (⟨ze.2 om,ze.2 om⟩)) (fun _ _=> ?_)
      exact zH (hD0 (u8_1r3,u9_1r3,u9_2r3)) kr (mR rfl) .rfl .rfl ((.of [0,1,2,3,4] rfl):SelR _ _ _)
    refine zaa (X:=Nat) (k':=2) (L':=(lb 11 511)) (fun u8_1r3=>([(30,.slice (some ⟨u8_1r3,0,none⟩) 1 1),(28,.slice pz2 (lz2.length) cz2),(27,.agg #[.int .i64 (min ((F.getD i (0,0,0)).2.2) ((F.getD i (0,0,0)).1)),.int .i64 (max ((F.getD i (0,0,0)).2.2) ((F.getD i (0,0,0)).1))]),(24,.agg #[.int .i64 (min ((F.getD i (0,0,0)).2.2) ((F.getD i (0,0,0)).1)),.int .i64 (max ((F.getD i (0,0,0)).2.2) ((F.getD i (0,0,0)).1))]),(29,.int .i64 ((i:Nat):Int)),(26,.agg #[.int .i64 ((F.getD i (0,0,0)).2.2),.int .i64 ((F.getD i (0,0,0)).1)]),(25,.map (some b2)),(23,.agg #[.int .i64 ((F.getD i (0,0,0)).2.2),.int .i64 ((F.getD i (0,0,0)).1)]),(22,.map (some b2)),(7,.pointer (some ⟨b10,0,none⟩)),(21,.agg #[.int .i64 ((F.getD i (0,0,0)).2.2),.int .i64 ((F.getD i (0,0,0)).1)]),(20,.bool true),(19,.int .i64 2),(32,.int .i64 2),(31,.slice u9_1r2 (lz1.length+1) u9_2r2),(18,.agg #[.int .i64 ((F.getD i (0,0,0)).1),.int .i64 ((F.getD i (0,0,0)).2.1),.int .i64 ((F.getD i (0,0,0)).2.1),.int .i64 ((F.getD i (0,0,0)).2.2),.int .i64 ((F.getD i (0,0,0)).2.2),.int .i64 ((F.getD i (0,0,0)).1)]),(4,.int .i64 ((i:Nat):Int)),(12,.int .i64 ((i:Nat):Int)),(11,.int .i64 ((nf:Nat):Int)),(10,.slice pf nf cf),(3,.map (some b2)),(2,.map none)],[rowA 3 (rI .i64) pz2 cz2 lz2,mapA b2 (fun z:Int×Int=> .agg #[.int .i64 z.1,.int .i64 z.2]) (fun z:Option Addr×Nat×Nat=> .slice z.1 z.2.1 z.2.2) (fun z=>InK .i64 z.1∧InK .i64 z.2) raw2],[emA,allA (mrest 3 (rI .i64) ((min ((F.getD i (0,0,0)).2.2) ((F.getD i (0,0,0)).1)),(max ((F.getD i (0,0,0)).2.2) ((F.getD i (0,0,0)).1))) raw2 Mq1),boxA b10 68 [.int .i64 ((F.getD i (0,0,0)).2.2),.int .i64 ((F.getD i (0,0,0)).1)],emA,boxA b9 68 [.int .i64 ((F.getD i (0,0,0)).2.1),.int .i64 ((F.getD i (0,0,0)).2.2)],emA,boxA b8 68 [.int .i64 ((F.getD i (0,0,0)).1),.int .i64 ((F.getD i (0,0,0)).2.1)],boxA b7 35 [.int .i64 ((F.getD i (0,0,0)).1),.int .i64 ((F.getD i (0,0,0)).2.1),.int .i64 ((F.getD i (0,0,0)).2.2)],boxA b1 32 [.slice pv nv cv,.slice pf nf cf]],[slF (rI .i64) (some ⟨u8_1r3,0,none⟩) 1 ([((i:Nat):Int)]),slF (rI .i64) (some ⟨u8_1r2,0,none⟩) 1 ([((i:Nat):Int)]),slF (rI .i64) (some ⟨u8_1,0,none⟩) 1 ([((i:Nat):Int)]),slF (rI3 .i64) pv cv V,slF (rI3 .i64) pf cf F])) ?_ (fun hD2=> ?_)
    ·
     rintro u8_1r3
     dsimp only
     refine zHa 9 kr ?_
     ·
      refine zcb (A':=fun v:Option Addr×Nat=>rowA 3 (rI .i64) v.1 v.2 (lz2++([((i:Nat):Int)]))) kr rfl rfl rfl (zea 0 rfl Try.underlying22 inf3 dd rfl rfl (by first|rfl|assumption|(simp;done)|omega) rfl (by first|rfl|assumption|(simp;done)|omega) om om) ?_
      rintro ⟨u9_1r3,u9_2r3⟩ -
      dsimp only [aq,nq,cq]
      exact zH (hD1 (u8_1r3,u9_1r3,u9_2r3)) kr (mR rfl) .rfl .rfl ((.of [0,1,2,3,4] rfl):SelR _ _ _)
    refine zaa (X:=Unit) (k':=3) (L':=(lb 11 255)) (fun _=>([(28,.slice pz2 (lz2.length) cz2),(27,.agg #[.int .i64 (min ((F.getD i (0,0,0)).2.2) ((F.getD i (0,0,0)).1)),.int .i64 (max ((F.getD i (0,0,0)).2.2) ((F.getD i (0,0,0)).1))]),(24,.agg #[.int .i64 (min ((F.getD i (0,0,0)).2.2) ((F.getD i (0,0,0)).1)),.int .i64 (max ((F.getD i (0,0,0)).2.2) ((F.getD i (0,0,0)).1))]),(29,.int .i64 ((i:Nat):Int)),(26,.agg #[.int .i64 ((F.getD i (0,0,0)).2.2),.int .i64 ((F.getD i (0,0,0)).1)]),(25,.map (some b2)),(23,.agg #[.int .i64 ((F.getD i (0,0,0)).2.2),.int .i64 ((F.getD i (0,0,0)).1)]),(22,.map (some b2)),(7,.pointer (some ⟨b10,0,none⟩)),(21,.agg #[.int .i64 ((F.getD i (0,0,0)).2.2),.int .i64 ((F.getD i (0,0,0)).1)]),(20,.bool true),(19,.int .i64 2),(32,.int .i64 2),(31,.slice u9_1r2 (lz1.length+1) u9_2r2),(30,.slice (some ⟨u8_1r2,0,none⟩) 1 1),(18,.agg #[.int .i64 ((F.getD i (0,0,0)).1),.int .i64 ((F.getD i (0,0,0)).2.1),.int .i64 ((F.getD i (0,0,0)).2.1),.int .i64 ((F.getD i (0,0,0)).2.2),.int .i64 ((F.getD i (0,0,0)).2.2),.int .i64 ((F.getD i (0,0,0)).1)]),(4,.int .i64 ((i:Nat):Int)),(12,.int .i64 ((i:Nat):Int)),(11,.int .i64 ((nf:Nat):Int)),(10,.slice pf nf cf),(3,.map (some b2)),(2,.map none)],[rowA 3 (rI .i64) pz2 cz2 lz2,mapA b2 (fun z:Int×Int=> .agg #[.int .i64 z.1,.int .i64 z.2]) (fun z:Option Addr×Nat×Nat=> .slice z.1 z.2.1 z.2.2) (fun z=>InK .i64 z.1∧InK .i64 z.2) raw2],[allA (mrest 3 (rI .i64) ((min ((F.getD i (0,0,0)).2.2) ((F.getD i (0,0,0)).1)),(max ((F.getD i (0,0,0)).2.2) ((F.getD i (0,0,0)).1))) raw2 Mq1),boxA b10 68 [.int .i64 ((F.getD i (0,0,0)).2.2),.int .i64 ((F.getD i (0,0,0)).1)],emA,boxA b9 68 [.int .i64 ((F.getD i (0,0,0)).2.1),.int .i64 ((F.getD i (0,0,0)).2.2)],emA,boxA b8 68 [.int .i64 ((F.getD i (0,0,0)).1),.int .i64 ((F.getD i (0,0,0)).2.1)],boxA b7 35 [.int .i64 ((F.getD i (0,0,0)).1),.int .i64 ((F.getD i (0,0,0)).2.1),.int .i64 ((F.getD i (0,0,0)).2.2)],boxA b1 32 [.slice pv nv cv,.slice pf nf cf]],[slF (rI .i64) (some ⟨u8_1r2,0,none⟩) 1 ([((i:Nat):Int)]),slF (rI .i64) (some ⟨u8_1,0,none⟩) 1 ([((i:Nat):Int)]),slF (rI3 .i64) pv cv V,slF (rI3 .i64) pf cf F])) ?_ (fun hD3=> ?_)
    ·
     rintro ⟨⟩
     dsimp only
     refine zHa 8 kr ?_
     ·
      refine zib rfl rfl rfl rfl (zt (enc:=fun z:Int=>[.int .i64 z]) (ok:=InK .i64) (h1:=fun _=>rfl) (h2:=fun _=>rfl) (k:=1) Try.underlying22 inf3 rfl dd dd dd (.c (x:=((i:Nat):Int)) rfl rfl (fun _ _=>by exact ze.2 om) .n)) (fun u8_1r3 _=> ?_)
      refine zva 0 rfl .z ?_
      exact zH (hD2 u8_1r3) kr (mR rfl) .rfl .rfl ((.of [0,1,2,3,4] rfl):SelR _ _ _)
    refine zaa (X:=Nat) (k':=4) (L':=(lb 11 415)) (fun u8_1r3=>([(30,.slice (some ⟨u8_1r3,0,none⟩) 1 1),(24,.agg #[.int .i64 (min ((F.getD i (0,0,0)).2.2) ((F.getD i (0,0,0)).1)),.int .i64 (max ((F.getD i (0,0,0)).2.2) ((F.getD i (0,0,0)).1))]),(29,.int .i64 ((i:Nat):Int)),(26,.agg #[.int .i64 ((F.getD i (0,0,0)).2.2),.int .i64 ((F.getD i (0,0,0)).1)]),(25,.map (some b2)),(23,.agg #[.int .i64 ((F.getD i (0,0,0)).2.2),.int .i64 ((F.getD i (0,0,0)).1)]),(22,.map (some b2)),(7,.pointer (some ⟨b10,0,none⟩)),(21,.agg #[.int .i64 ((F.getD i (0,0,0)).2.2),.int .i64 ((F.getD i (0,0,0)).1)]),(20,.bool true),(19,.int .i64 2),(32,.int .i64 2),(31,.slice u9_1r2 (lz1.length+1) u9_2r2),(28,.slice pz1 (lz1.length) cz1),(27,.agg #[.int .i64 qd1,.int .i64 qd2]),(18,.agg #[.int .i64 ((F.getD i (0,0,0)).1),.int .i64 ((F.getD i (0,0,0)).2.1),.int .i64 ((F.getD i (0,0,0)).2.1),.int .i64 ((F.getD i (0,0,0)).2.2),.int .i64 ((F.getD i (0,0,0)).2.2),.int .i64 ((F.getD i (0,0,0)).1)]),(4,.int .i64 ((i:Nat):Int)),(12,.int .i64 ((i:Nat):Int)),(11,.int .i64 ((nf:Nat):Int)),(10,.slice pf nf cf),(3,.map (some b2)),(2,.map none)],[rowA 3 (rI .i64) pz2 cz2 lz2,mapA b2 (fun z:Int×Int=> .agg #[.int .i64 z.1,.int .i64 z.2]) (fun z:Option Addr×Nat×Nat=> .slice z.1 z.2.1 z.2.2) (fun z=>InK .i64 z.1∧InK .i64 z.2) raw2],[emA,allA (mrest 3 (rI .i64) ((min ((F.getD i (0,0,0)).2.2) ((F.getD i (0,0,0)).1)),(max ((F.getD i (0,0,0)).2.2) ((F.getD i (0,0,0)).1))) raw2 Mq1),boxA b10 68 [.int .i64 ((F.getD i (0,0,0)).2.2),.int .i64 ((F.getD i (0,0,0)).1)],emA,boxA b9 68 [.int .i64 ((F.getD i (0,0,0)).2.1),.int .i64 ((F.getD i (0,0,0)).2.2)],emA,boxA b8 68 [.int .i64 ((F.getD i (0,0,0)).1),.int .i64 ((F.getD i (0,0,0)).2.1)],boxA b7 35 [.int .i64 ((F.getD i (0,0,0)).1),.int .i64 ((F.getD i (0,0,0)).2.1),.int .i64 ((F.getD i (0,0,0)).2.2)],boxA b1 32 [.slice pv nv cv,.slice pf nf cf]],[slF (rI .i64) (some ⟨u8_1r3,0,none⟩) 1 ([((i:Nat):Int)]),slF (rI .i64) (some ⟨u8_1r2,0,none⟩) 1 ([((i:Nat):Int)]),slF (rI .i64) (some ⟨u8_1,0,none⟩) 1 ([((i:Nat):Int)]),slF (rI3 .i64) pv cv V,slF (rI3 .i64) pf cf F])) ?_ (fun hD4=> ?_)
    ·
     rintro u8_1r3
     dsimp only
     refine zHa 5 kr ?_
     ·
      refine zGa rfl rfl rfl rfl (.c rfl .n) ce30 (zqa (ex:=((F.getD i (0,0,0)).2.2)) (ey:=((F.getD i (0,0,0)).1))) (.n)<|e_uw 6 rfl rfl (zfa (z:=(none,0,0)) (a0:=((min ((F.getD i (0,0,0)).2.2) ((F.getD i (0,0,0)).1)),(max ((F.getD i (0,0,0)).2.2) ((F.getD i (0,0,0)).1)))) (v:= .slice pz2 (lz2.length) cz2) 1 rfl ky68 Try.underlying62 zr22 rfl rfl (⟨ze.2 om,ze.2 om⟩) (by rw [hgt2])) ?_
      exact zH (hD2 u8_1r3) kr (mR rfl) .rfl .rfl ((.of [0,1,2,3,4] rfl):SelR _ _ _)
    refine zaa (X:=Unit) (k':=5) (L':=(lb 11 159)) (fun _=>([(24,.agg #[.int .i64 (min ((F.getD i (0,0,0)).2.2) ((F.getD i (0,0,0)).1)),.int .i64 (max ((F.getD i (0,0,0)).2.2) ((F.getD i (0,0,0)).1))]),(29,.int .i64 ((i:Nat):Int)),(26,.agg #[.int .i64 ((F.getD i (0,0,0)).2.2),.int .i64 ((F.getD i (0,0,0)).1)]),(25,.map (some b2)),(23,.agg #[.int .i64 ((F.getD i (0,0,0)).2.2),.int .i64 ((F.getD i (0,0,0)).1)]),(22,.map (some b2)),(7,.pointer (some ⟨b10,0,none⟩)),(21,.agg #[.int .i64 ((F.getD i (0,0,0)).2.2),.int .i64 ((F.getD i (0,0,0)).1)]),(20,.bool true),(19,.int .i64 2),(32,.int .i64 2),(31,.slice u9_1r2 (lz1.length+1) u9_2r2),(30,.slice (some ⟨u8_1r2,0,none⟩) 1 1),(28,.slice pz1 (lz1.length) cz1),(27,.agg #[.int .i64 qd1,.int .i64 qd2]),(18,.agg #[.int .i64 ((F.getD i (0,0,0)).1),.int .i64 ((F.getD i (0,0,0)).2.1),.int .i64 ((F.getD i (0,0,0)).2.1),.int .i64 ((F.getD i (0,0,0)).2.2),.int .i64 ((F.getD i (0,0,0)).2.2),.int .i64 ((F.getD i (0,0,0)).1)]),(4,.int .i64 ((i:Nat):Int)),(12,.int .i64 ((i:Nat):Int)),(11,.int .i64 ((nf:Nat):Int)),(10,.slice pf nf cf),(3,.map (some b2)),(2,.map none)],[rowA 3 (rI .i64) pz2 cz2 lz2,mapA b2 (fun z:Int×Int=> .agg #[.int .i64 z.1,.int .i64 z.2]) (fun z:Option Addr×Nat×Nat=> .slice z.1 z.2.1 z.2.2) (fun z=>InK .i64 z.1∧InK .i64 z.2) raw2],[allA (mrest 3 (rI .i64) ((min ((F.getD i (0,0,0)).2.2) ((F.getD i (0,0,0)).1)),(max ((F.getD i (0,0,0)).2.2) ((F.getD i (0,0,0)).1))) raw2 Mq1),boxA b10 68 [.int .i64 ((F.getD i (0,0,0)).2.2),.int .i64 ((F.getD i (0,0,0)).1)],emA,boxA b9 68 [.int .i64 ((F.getD i (0,0,0)).2.1),.int .i64 ((F.getD i (0,0,0)).2.2)],emA,boxA b8 68 [.int .i64 ((F.getD i (0,0,0)).1),.int .i64 ((F.getD i (0,0,0)).2.1)],boxA b7 35 [.int .i64 ((F.getD i (0,0,0)).1),.int .i64 ((F.getD i (0,0,0)).2.1),.int .i64 ((F.getD i (0,0,0)).2.2)],boxA b1 32 [.slice pv nv cv,.slice pf nf cf]],[slF (rI .i64) (some ⟨u8_1r2,0,none⟩) 1 ([((i:Nat):Int)]),slF (rI .i64) (some ⟨u8_1,0,none⟩) 1 ([((i:Nat):Int)]),slF (rI3 .i64) pv cv V,slF (rI3 .i64) pf cf F])) ?_ (fun hD5=> ?_)
    ·
     rintro ⟨⟩
     dsimp only
     refine zDb 5 8 kr ?_ ?_
     ·
      refine zGa rfl rfl rfl rfl (.c rfl .n) ce30 (zqa (ex:=((F.getD i (0,0,0)).2.2)) (ey:=((F.getD i (0,0,0)).1))) (.n)<|e_uw 6 rfl rfl (zfa (z:=(none,0,0)) (a0:=((min ((F.getD i (0,0,0)).2.2) ((F.getD i (0,0,0)).1)),(max ((F.getD i (0,0,0)).2.2) ((F.getD i (0,0,0)).1)))) (v:= .slice pz2 (lz2.length) cz2) 1 rfl ky68 Try.underlying62 zr22 rfl rfl (⟨ze.2 om,ze.2 om⟩) (by rw [hgt2])) ?_
      exact zH (hD3 ()) kr (mR rfl) .rfl .rfl ((.of [0,1,2,3] rfl):SelR _ _ _)
     ·
      refine zib rfl rfl rfl rfl (zt (enc:=fun z:Int=>[.int .i64 z]) (ok:=InK .i64) (h1:=fun _=>rfl) (h2:=fun _=>rfl) (k:=1) Try.underlying22 inf3 rfl dd dd dd (.c (x:=((i:Nat):Int)) rfl rfl (fun _ _=>by exact ze.2 om) .n)) (fun u8_1r3 _=> ?_)
      refine zva 0 rfl .z ?_
      exact zH (hD4 u8_1r3) kr (mR rfl) .rfl .rfl ((.of [0,1,2,3,4] rfl):SelR _ _ _)
    refine zaa (X:=Nat) (k':=5) (L':=(lb 11 411)) (fun u8_1r3=>([(30,.slice (some ⟨u8_1r3,0,none⟩) 1 1),(29,.int .i64 ((i:Nat):Int)),(26,.agg #[.int .i64 ((F.getD i (0,0,0)).2.2),.int .i64 ((F.getD i (0,0,0)).1)]),(25,.map (some b2)),(23,.agg #[.int .i64 ((F.getD i (0,0,0)).2.2),.int .i64 ((F.getD i (0,0,0)).1)]),(22,.map (some b2)),(7,.pointer (some ⟨b10,0,none⟩)),(21,.agg #[.int .i64 ((F.getD i (0,0,0)).2.2),.int .i64 ((F.getD i (0,0,0)).1)]),(20,.bool true),(19,.int .i64 2),(32,.int .i64 2),(31,.slice u9_1r2 (lz1.length+1) u9_2r2),(28,.slice pz1 (lz1.length) cz1),(27,.agg #[.int .i64 qd1,.int .i64 qd2]),(24,.agg #[.int .i64 qd1,.int .i64 qd2]),(18,.agg #[.int .i64 ((F.getD i (0,0,0)).1),.int .i64 ((F.getD i (0,0,0)).2.1),.int .i64 ((F.getD i (0,0,0)).2.1),.int .i64 ((F.getD i (0,0,0)).2.2),.int .i64 ((F.getD i (0,0,0)).2.2),.int .i64 ((F.getD i (0,0,0)).1)]),(4,.int .i64 ((i:Nat):Int)),(12,.int .i64 ((i:Nat):Int)),(11,.int .i64 ((nf:Nat):Int)),(10,.slice pf nf cf),(3,.map (some b2)),(2,.map none)],[rowA 3 (rI .i64) pz2 cz2 lz2,mapA b2 (fun z:Int×Int=> .agg #[.int .i64 z.1,.int .i64 z.2]) (fun z:Option Addr×Nat×Nat=> .slice z.1 z.2.1 z.2.2) (fun z=>InK .i64 z.1∧InK .i64 z.2) raw2],[emA,allA (mrest 3 (rI .i64) ((min ((F.getD i (0,0,0)).2.2) ((F.getD i (0,0,0)).1)),(max ((F.getD i (0,0,0)).2.2) ((F.getD i (0,0,0)).1))) raw2 Mq1),boxA b10 68 [.int .i64 ((F.getD i (0,0,0)).2.2),.int .i64 ((F.getD i (0,0,0)).1)],emA,boxA b9 68 [.int .i64 ((F.getD i (0,0,0)).2.1),.int .i64 ((F.getD i (0,0,0)).2.2)],emA,boxA b8 68 [.int .i64 ((F.getD i (0,0,0)).1),.int .i64 ((F.getD i (0,0,0)).2.1)],boxA b7 35 [.int .i64 ((F.getD i (0,0,0)).1),.int .i64 ((F.getD i (0,0,0)).2.1),.int .i64 ((F.getD i (0,0,0)).2.2)],boxA b1 32 [.slice pv nv cv,.slice pf nf cf]],[slF (rI .i64) (some ⟨u8_1r3,0,none⟩) 1 ([((i:Nat):Int)]),slF (rI .i64) (some ⟨u8_1r2,0,none⟩) 1 ([((i:Nat):Int)]),slF (rI .i64) (some ⟨u8_1,0,none⟩) 1 ([((i:Nat):Int)]),slF (rI3 .i64) pv cv V,slF (rI3 .i64) pf cf F])) ?_ (fun hD6=> ?_)
    ·
     rintro u8_1r3
     dsimp only
     refine zHa 2 kr ?_
     ·
      refine zGa rfl rfl rfl rfl (.c rfl .n) ce30 (zqa (ex:=((F.getD i (0,0,0)).2.2)) (ey:=((F.getD i (0,0,0)).1))) (.n) ?_
      exact zH (hD4 u8_1r3) kr (mR rfl) .rfl .rfl ((.of [0,1,2,3,4] rfl):SelR _ _ _)
    refine zDb 2 8 kr ?_ ?_
    ·
     refine zGa rfl rfl rfl rfl (.c rfl .n) ce30 (zqa (ex:=((F.getD i (0,0,0)).2.2)) (ey:=((F.getD i (0,0,0)).1))) (.n) ?_
     exact zH (hD5 ()) kr (mR rfl) .rfl .rfl ((.of [0,1,2,3] rfl):SelR _ _ _)
    ·
     refine zib rfl rfl rfl rfl (zt (enc:=fun z:Int=>[.int .i64 z]) (ok:=InK .i64) (h1:=fun _=>rfl) (h2:=fun _=>rfl) (k:=1) Try.underlying22 inf3 rfl dd dd dd (.c (x:=((i:Nat):Int)) rfl rfl (fun _ _=>by exact ze.2 om) .n)) (fun u8_1r3 _=> ?_)
     refine zva 0 rfl .z ?_
     exact zH (hD6 u8_1r3) kr (mR rfl) .rfl .rfl ((.of [0,1,2,3,4] rfl):SelR _ _ _)
   refine zaa (X:=Nat×Option Addr×Nat) (k':=1) (L':=(lb 11 1023)) (fun (u8_1r2,u9_1r2,u9_2r2)=>([(31,.slice u9_1r2 (lz1.length+1) u9_2r2),(30,.slice (some ⟨u8_1r2,0,none⟩) 1 1),(28,.slice pz1 (lz1.length) cz1),(27,.agg #[.int .i64 (min ((F.getD i (0,0,0)).2.1) ((F.getD i (0,0,0)).2.2)),.int .i64 (max ((F.getD i (0,0,0)).2.1) ((F.getD i (0,0,0)).2.2))]),(24,.agg #[.int .i64 (min ((F.getD i (0,0,0)).2.1) ((F.getD i (0,0,0)).2.2)),.int .i64 (max ((F.getD i (0,0,0)).2.1) ((F.getD i (0,0,0)).2.2))]),(29,.int .i64 ((i:Nat):Int)),(26,.agg #[.int .i64 ((F.getD i (0,0,0)).2.1),.int .i64 ((F.getD i (0,0,0)).2.2)]),(25,.map (some b2)),(23,.agg #[.int .i64 ((F.getD i (0,0,0)).2.1),.int .i64 ((F.getD i (0,0,0)).2.2)]),(22,.map (some b2)),(7,.pointer (some ⟨b9,0,none⟩)),(21,.agg #[.int .i64 ((F.getD i (0,0,0)).2.1),.int .i64 ((F.getD i (0,0,0)).2.2)]),(20,.bool true),(19,.int .i64 1),(32,.int .i64 1),(18,.agg #[.int .i64 ((F.getD i (0,0,0)).1),.int .i64 ((F.getD i (0,0,0)).2.1),.int .i64 ((F.getD i (0,0,0)).2.1),.int .i64 ((F.getD i (0,0,0)).2.2),.int .i64 ((F.getD i (0,0,0)).2.2),.int .i64 ((F.getD i (0,0,0)).1)]),(4,.int .i64 ((i:Nat):Int)),(12,.int .i64 ((i:Nat):Int)),(11,.int .i64 ((nf:Nat):Int)),(10,.slice pf nf cf),(3,.map (some b2)),(2,.map none)],[rowA 3 (rI .i64) u9_1r2 u9_2r2 (lz1++([((i:Nat):Int)])),mapA b2 (fun z:Int×Int=> .agg #[.int .i64 z.1,.int .i64 z.2]) (fun z:Option Addr×Nat×Nat=> .slice z.1 z.2.1 z.2.2) (fun z=>InK .i64 z.1∧InK .i64 z.2) raw1],[emA,allA (mrest 3 (rI .i64) ((min ((F.getD i (0,0,0)).2.1) ((F.getD i (0,0,0)).2.2)),(max ((F.getD i (0,0,0)).2.1) ((F.getD i (0,0,0)).2.2))) raw1 Mq0),boxA b9 68 [.int .i64 ((F.getD i (0,0,0)).2.1),.int .i64 ((F.getD i (0,0,0)).2.2)],emA,boxA b8 68 [.int .i64 ((F.getD i (0,0,0)).1),.int .i64 ((F.getD i (0,0,0)).2.1)],boxA b7 35 [.int .i64 ((F.getD i (0,0,0)).1),.int .i64 ((F.getD i (0,0,0)).2.1),.int .i64 ((F.getD i (0,0,0)).2.2)],boxA b1 32 [.slice pv nv cv,.slice pf nf cf]],[slF (rI .i64) (some ⟨u8_1r2,0,none⟩) 1 ([((i:Nat):Int)]),slF (rI .i64) (some ⟨u8_1,0,none⟩) 1 ([((i:Nat):Int)]),slF (rI3 .i64) pv cv V,slF (rI3 .i64) pf cf F])) ?_ (fun hD1=> ?_)
   ·
    rintro ⟨u8_1r2,u9_1r2,u9_2r2⟩
    dsimp only
    refine zHa 10 kr ?_
    ·
     refine zZa (zK (i:=1) rfl)<|zcb (A':=fun _=>mapA b2 (fun z:Int×Int=> .agg #[.int .i64 z.1,.int .i64 z.2]) (fun z:Option Addr×Nat×Nat=> .slice z.1 z.2.1 z.2.2) (fun z=>InK .i64 z.1∧InK .i64 z.2) (mput raw1 ((min ((F.getD i (0,0,0)).2.1) ((F.getD i (0,0,0)).2.2)),(max ((F.getD i (0,0,0)).2.1) ((F.getD i (0,0,0)).2.2))) (u9_1r2,lz1.length+1,u9_2r2))) kr rfl rfl rfl (zT (a0:=((min ((F.getD i (0,0,0)).2.1) ((F.getD i (0,0,0)).2.2)),(max ((F.getD i (0,0,0)).2.1) ((F.getD i (0,0,0)).2.2)))) (v:=(u9_1r2,lz1.length+1,u9_2r2)) ky68 Try.underlying62 rfl rfl rfl (⟨ze.2 om,ze.2 om⟩)) (fun _ _=> ?_)
     exact zH (hD0 (u8_1r2,u9_1r2,u9_2r2)) kr (mR rfl) .rfl .rfl ((.of [0,1,2,3] rfl):SelR _ _ _)
   refine zaa (X:=Nat) (k':=2) (L':=(lb 11 511)) (fun u8_1r2=>([(30,.slice (some ⟨u8_1r2,0,none⟩) 1 1),(28,.slice pz1 (lz1.length) cz1),(27,.agg #[.int .i64 (min ((F.getD i (0,0,0)).2.1) ((F.getD i (0,0,0)).2.2)),.int .i64 (max ((F.getD i (0,0,0)).2.1) ((F.getD i (0,0,0)).2.2))]),(24,.agg #[.int .i64 (min ((F.getD i (0,0,0)).2.1) ((F.getD i (0,0,0)).2.2)),.int .i64 (max ((F.getD i (0,0,0)).2.1) ((F.getD i (0,0,0)).2.2))]),(29,.int .i64 ((i:Nat):Int)),(26,.agg #[.int .i64 ((F.getD i (0,0,0)).2.1),.int .i64 ((F.getD i (0,0,0)).2.2)]),(25,.map (some b2)),(23,.agg #[.int .i64 ((F.getD i (0,0,0)).2.1),.int .i64 ((F.getD i (0,0,0)).2.2)]),(22,.map (some b2)),(7,.pointer (some ⟨b9,0,none⟩)),(21,.agg #[.int .i64 ((F.getD i (0,0,0)).2.1),.int .i64 ((F.getD i (0,0,0)).2.2)]),(20,.bool true),(19,.int .i64 1),(32,.int .i64 1),(31,.slice u9_1 (lz0.length+1) u9_2),(18,.agg #[.int .i64 ((F.getD i (0,0,0)).1),.int .i64 ((F.getD i (0,0,0)).2.1),.int .i64 ((F.getD i (0,0,0)).2.1),.int .i64 ((F.getD i (0,0,0)).2.2),.int .i64 ((F.getD i (0,0,0)).2.2),.int .i64 ((F.getD i (0,0,0)).1)]),(4,.int .i64 ((i:Nat):Int)),(12,.int .i64 ((i:Nat):Int)),(11,.int .i64 ((nf:Nat):Int)),(10,.slice pf nf cf),(3,.map (some b2)),(2,.map none)],[rowA 3 (rI .i64) pz1 cz1 lz1,mapA b2 (fun z:Int×Int=> .agg #[.int .i64 z.1,.int .i64 z.2]) (fun z:Option Addr×Nat×Nat=> .slice z.1 z.2.1 z.2.2) (fun z=>InK .i64 z.1∧InK .i64 z.2) raw1],[emA,allA (mrest 3 (rI .i64) ((min ((F.getD i (0,0,0)).2.1) ((F.getD i (0,0,0)).2.2)),(max ((F.getD i (0,0,0)).2.1) ((F.getD i (0,0,0)).2.2))) raw1 Mq0),boxA b9 68 [.int .i64 ((F.getD i (0,0,0)).2.1),.int .i64 ((F.getD i (0,0,0)).2.2)],emA,boxA b8 68 [.int .i64 ((F.getD i (0,0,0)).1),.int .i64 ((F.getD i (0,0,0)).2.1)],boxA b7 35 [.int .i64 ((F.getD i (0,0,0)).1),.int .i64 ((F.getD i (0,0,0)).2.1),.int .i64 ((F.getD i (0,0,0)).2.2)],boxA b1 32 [.slice pv nv cv,.slice pf nf cf]],[slF (rI .i64) (some ⟨u8_1r2,0,none⟩) 1 ([((i:Nat):Int)]),slF (rI .i64) (some ⟨u8_1,0,none⟩) 1 ([((i:Nat):Int)]),slF (rI3 .i64) pv cv V,slF (rI3 .i64) pf cf F])) ?_ (fun hD2=> ?_)
   ·
    rintro u8_1r2
    dsimp only
    refine zHa 9 kr ?_
    ·
     refine zcb (A':=fun v:Option Addr×Nat=>rowA 3 (rI .i64) v.1 v.2 (lz1++([((i:Nat):Int)]))) kr rfl rfl rfl (zea 0 rfl Try.underlying22 inf3 dd rfl rfl (by first|rfl|assumption|(simp;done)|omega) rfl (by first|rfl|assumption|(simp;done)|omega) om om) ?_
     rintro ⟨u9_1r2,u9_2r2⟩ -
     dsimp only [aq,nq,cq]
     exact zH (hD1 (u8_1r2,u9_1r2,u9_2r2)) kr (mR rfl) .rfl .rfl ((.of [0,1,2,3] rfl):SelR _ _ _)
   refine zaa (X:=Unit) (k':=3) (L':=(lb 11 255)) (fun _=>([(28,.slice pz1 (lz1.length) cz1),(27,.agg #[.int .i64 (min ((F.getD i (0,0,0)).2.1) ((F.getD i (0,0,0)).2.2)),.int .i64 (max ((F.getD i (0,0,0)).2.1) ((F.getD i (0,0,0)).2.2))]),(24,.agg #[.int .i64 (min ((F.getD i (0,0,0)).2.1) ((F.getD i (0,0,0)).2.2)),.int .i64 (max ((F.getD i (0,0,0)).2.1) ((F.getD i (0,0,0)).2.2))]),(29,.int .i64 ((i:Nat):Int)),(26,.agg #[.int .i64 ((F.getD i (0,0,0)).2.1),.int .i64 ((F.getD i (0,0,0)).2.2)]),(25,.map (some b2)),(23,.agg #[.int .i64 ((F.getD i (0,0,0)).2.1),.int .i64 ((F.getD i (0,0,0)).2.2)]),(22,.map (some b2)),(7,.pointer (some ⟨b9,0,none⟩)),(21,.agg #[.int .i64 ((F.getD i (0,0,0)).2.1),.int .i64 ((F.getD i (0,0,0)).2.2)]),(20,.bool true),(19,.int .i64 1),(32,.int .i64 1),(31,.slice u9_1 (lz0.length+1) u9_2),(30,.slice (some ⟨u8_1,0,none⟩) 1 1),(18,.agg #[.int .i64 ((F.getD i (0,0,0)).1),.int .i64 ((F.getD i (0,0,0)).2.1),.int .i64 ((F.getD i (0,0,0)).2.1),.int .i64 ((F.getD i (0,0,0)).2.2),.int .i64 ((F.getD i (0,0,0)).2.2),.int .i64 ((F.getD i (0,0,0)).1)]),(4,.int .i64 ((i:Nat):Int)),(12,.int .i64 ((i:Nat):Int)),(11,.int .i64 ((nf:Nat):Int)),(10,.slice pf nf cf),(3,.map (some b2)),(2,.map none)],[rowA 3 (rI .i64) pz1 cz1 lz1,mapA b2 (fun z:Int×Int=> .agg #[.int .i64 z.1,.int .i64 z.2]) (fun z:Option Addr×Nat×Nat=> .slice z.1 z.2.1 z.2.2) (fun z=>InK .i64 z.1∧InK .i64 z.2) raw1],[allA (mrest 3 (rI .i64) ((min ((F.getD i (0,0,0)).2.1) ((F.getD i (0,0,0)).2.2)),(max ((F.getD i (0,0,0)).2.1) ((F.getD i (0,0,0)).2.2))) raw1 Mq0),boxA b9 68 [.int .i64 ((F.getD i (0,0,0)).2.1),.int .i64 ((F.getD i (0,0,0)).2.2)],emA,boxA b8 68 [.int .i64 ((F.getD i (0,0,0)).1),.int .i64 ((F.getD i (0,0,0)).2.1)],boxA b7 35 [.int .i64 ((F.getD i (0,0,0)).1),.int .i64 ((F.getD i (0,0,0)).2.1),.int .i64 ((F.getD i (0,0,0)).2.2)],boxA b1 32 [.slice pv nv cv,.slice pf nf cf]],[slF (rI .i64) (some ⟨u8_1,0,none⟩) 1 ([((i:Nat):Int)]),slF (rI3 .i64) pv cv V,slF (rI3 .i64) pf cf F])) ?_ (fun hD3=> ?_)
   ·
    rintro ⟨⟩
    dsimp only
    refine zHa 8 kr ?_
    ·
     refine zib rfl rfl rfl rfl (zt (enc:=fun z:Int=>[.int .i64 z]) (ok:=InK .i64) (h1:=fun _=>rfl) (h2:=fun _=>rfl) (k:=1) Try.underlying22 inf3 rfl dd dd dd (.c (x:=((i:Nat):Int)) rfl rfl (fun _ _=>by exact ze.2 om) .n)) (fun u8_1r2 _=> ?_)
     refine zva 0 rfl .z ?_
     exact zH (hD2 u8_1r2) kr (mR rfl) .rfl .rfl ((.of [0,1,2,3] rfl):SelR _ _ _)
   refine zaa (X:=Nat) (k':=4) (L':=(lb 11 415)) (fun u8_1r2=>([(30,.slice (some ⟨u8_1r2,0,none⟩) 1 1),(24,.agg #[.int .i64 (min ((F.getD i (0,0,0)).2.1) ((F.getD i (0,0,0)).2.2)),.int .i64 (max ((F.getD i (0,0,0)).2.1) ((F.getD i (0,0,0)).2.2))]),(29,.int .i64 ((i:Nat):Int)),(26,.agg #[.int .i64 ((F.getD i (0,0,0)).2.1),.int .i64 ((F.getD i (0,0,0)).2.2)]),(25,.map (some b2)),(23,.agg #[.int .i64 ((F.getD i (0,0,0)).2.1),.int .i64 ((F.getD i (0,0,0)).2.2)]),(22,.map (some b2)),(7,.pointer (some ⟨b9,0,none⟩)),(21,.agg #[.int .i64 ((F.getD i (0,0,0)).2.1),.int .i64 ((F.getD i (0,0,0)).2.2)]),(20,.bool true),(19,.int .i64 1),(32,.int .i64 1),(31,.slice u9_1 (lz0.length+1) u9_2),(28,.slice pz0 (lz0.length) cz0),(27,.agg #[.int .i64 qd1,.int .i64 qd2]),(18,.agg #[.int .i64 ((F.getD i (0,0,0)).1),.int .i64 ((F.getD i (0,0,0)).2.1),.int .i64 ((F.getD i (0,0,0)).2.1),.int .i64 ((F.getD i (0,0,0)).2.2),.int .i64 ((F.getD i (0,0,0)).2.2),.int .i64 ((F.getD i (0,0,0)).1)]),(4,.int .i64 ((i:Nat):Int)),(12,.int .i64 ((i:Nat):Int)),(11,.int .i64 ((nf:Nat):Int)),(10,.slice pf nf cf),(3,.map (some b2)),(2,.map none)],[rowA 3 (rI .i64) pz1 cz1 lz1,mapA b2 (fun z:Int×Int=> .agg #[.int .i64 z.1,.int .i64 z.2]) (fun z:Option Addr×Nat×Nat=> .slice z.1 z.2.1 z.2.2) (fun z=>InK .i64 z.1∧InK .i64 z.2) raw1],[emA,allA (mrest 3 (rI .i64) ((min ((F.getD i (0,0,0)).2.1) ((F.getD i (0,0,0)).2.2)),(max ((F.getD i (0,0,0)).2.1) ((F.getD i (0,0,0)).2.2))) raw1 Mq0),boxA b9 68 [.int .i64 ((F.getD i (0,0,0)).2.1),.int .i64 ((F.getD i (0,0,0)).2.2)],emA,boxA b8 68 [.int .i64 ((F.getD i (0,0,0)).1),.int .i64 ((F.getD i (0,0,0)).2.1)],boxA b7 35 [.int .i64 ((F.getD i (0,0,0)).1),.int .i64 ((F.getD i (0,0,0)).2.1),.int .i64 ((F.getD i (0,0,0)).2.2)],boxA b1 32 [.slice pv nv cv,.slice pf nf cf]],[slF (rI .i64) (some ⟨u8_1r2,0,none⟩) 1 ([((i:Nat):Int)]),slF (rI .i64) (some ⟨u8_1,0,none⟩) 1 ([((i:Nat):Int)]),slF (rI3 .i64) pv cv V,slF (rI3 .i64) pf cf F])) ?_ (fun hD4=> ?_)
   ·
    rintro u8_1r2
    dsimp only
    refine zHa 5 kr ?_
    ·
     refine zGa rfl rfl rfl rfl (.c rfl .n) ce30 (zqa (ex:=((F.getD i (0,0,0)).2.1)) (ey:=((F.getD i (0,0,0)).2.2))) (.n)<|e_uw 6 rfl rfl (zfa (z:=(none,0,0)) (a0:=((min ((F.getD i (0,0,0)).2.1) ((F.getD i (0,0,0)).2.2)),(max ((F.getD i (0,0,0)).2.1) ((F.getD i (0,0,0)).2.2)))) (v:= .slice pz1 (lz1.length) cz1) 1 rfl ky68 Try.underlying62 zr22 rfl rfl (⟨ze.2 om,ze.2 om⟩) (by rw [hgt1])) ?_
     exact zH (hD2 u8_1r2) kr (mR rfl) .rfl .rfl ((.of [0,1,2,3] rfl):SelR _ _ _)
   refine zaa (X:=Unit) (k':=5) (L':=(lb 11 159)) (fun _=>([(24,.agg #[.int .i64 (min ((F.getD i (0,0,0)).2.1) ((F.getD i (0,0,0)).2.2)),.int .i64 (max ((F.getD i (0,0,0)).2.1) ((F.getD i (0,0,0)).2.2))]),(29,.int .i64 ((i:Nat):Int)),(26,.agg #[.int .i64 ((F.getD i (0,0,0)).2.1),.int .i64 ((F.getD i (0,0,0)).2.2)]),(25,.map (some b2)),(23,.agg #[.int .i64 ((F.getD i (0,0,0)).2.1),.int .i64 ((F.getD i (0,0,0)).2.2)]),(22,.map (some b2)),(7,.pointer (some ⟨b9,0,none⟩)),(21,.agg #[.int .i64 ((F.getD i (0,0,0)).2.1),.int .i64 ((F.getD i (0,0,0)).2.2)]),(20,.bool true),(19,.int .i64 1),(32,.int .i64 1),(31,.slice u9_1 (lz0.length+1) u9_2),(30,.slice (some ⟨u8_1,0,none⟩) 1 1),(28,.slice pz0 (lz0.length) cz0),(27,.agg #[.int .i64 qd1,.int .i64 qd2]),(18,.agg #[.int .i64 ((F.getD i (0,0,0)).1),.int .i64 ((F.getD i (0,0,0)).2.1),.int .i64 ((F.getD i (0,0,0)).2.1),.int .i64 ((F.getD i (0,0,0)).2.2),.int .i64 ((F.getD i (0,0,0)).2.2),.int .i64 ((F.getD i (0,0,0)).1)]),(4,.int .i64 ((i:Nat):Int)),(12,.int .i64 ((i:Nat):Int)),(11,.int .i64 ((nf:Nat):Int)),(10,.slice pf nf cf),(3,.map (some b2)),(2,.map none)],[rowA 3 (rI .i64) pz1 cz1 lz1,mapA b2 (fun z:Int×Int=> .agg #[.int .i64 z.1,.int .i64 z.2]) (fun z:Option Addr×Nat×Nat=> .slice z.1 z.2.1 z.2.2) (fun z=>InK .i64 z.1∧InK .i64 z.2) raw1],[allA (mrest 3 (rI .i64) ((min ((F.getD i (0,0,0)).2.1) ((F.getD i (0,0,0)).2.2)),(max ((F.getD i (0,0,0)).2.1) ((F.getD i (0,0,0)).2.2))) raw1 Mq0),boxA b9 68 [.int .i64 ((F.getD i (0,0,0)).2.1),.int .i64 ((F.getD i (0,0,0)).2.2)],emA,boxA b8 68 [.int .i64 ((F.getD i (0,0,0)).1),.int .i64 ((F.getD i (0,0,0)).2.1)],boxA b7 35 [.int .i64 ((F.getD i (0,0,0)).1),.int .i64 ((F.getD i (0,0,0)).2.1),.int .i64 ((F.getD i (0,0,0)).2.2)],boxA b1 32 [.slice pv nv cv,.slice pf nf cf]],[slF (rI .i64) (some ⟨u8_1,0,none⟩) 1 ([((i:Nat):Int)]),slF (rI3 .i64) pv cv V,slF (rI3 .i64) pf cf F])) ?_ (fun hD5=> ?_)
   ·
    rintro ⟨⟩
    dsimp only
    refine zDb 5 8 kr ?_ ?_
    ·
     refine zGa rfl rfl rfl rfl (.c rfl .n) ce30 (zqa (ex:=((F.getD i (0,0,0)).2.1)) (ey:=((F.getD i (0,0,0)).2.2))) (.n)<|e_uw 6 rfl rfl (zfa (z:=(none,0,0)) (a0:=((min ((F.getD i (0,0,0)).2.1) ((F.getD i (0,0,0)).2.2)),(max ((F.getD i (0,0,0)).2.1) ((F.getD i (0,0,0)).2.2)))) (v:= .slice pz1 (lz1.length) cz1) 1 rfl ky68 Try.underlying62 zr22 rfl rfl (⟨ze.2 om,ze.2 om⟩) (by rw [hgt1])) ?_
     exact zH (hD3 ()) kr (mR rfl) .rfl .rfl ((.of [0,1,2] rfl):SelR _ _ _)
    ·
     refine zib rfl rfl rfl rfl (zt (enc:=fun z:Int=>[.int .i64 z]) (ok:=InK .i64) (h1:=fun _=>rfl) (h2:=fun _=>rfl) (k:=1) Try.underlying22 inf3 rfl dd dd dd (.c (x:=((i:Nat):Int)) rfl rfl (fun _ _=>by exact ze.2 om) .n)) (fun u8_1r2 _=> ?_)
     refine zva 0 rfl .z ?_
     exact zH (hD4 u8_1r2) kr (mR rfl) .rfl .rfl ((.of [0,1,2,3] rfl):SelR _ _ _)
   refine zaa (X:=Nat) (k':=5) (L':=(lb 11 411)) (fun u8_1r2=>([(30,.slice (some ⟨u8_1r2,0,none⟩) 1 1),(29,.int .i64 ((i:Nat):Int)),(26,.agg #[.int .i64 ((F.getD i (0,0,0)).2.1),.int .i64 ((F.getD i (0,0,0)).2.2)]),(25,.map (some b2)),(23,.agg #[.int .i64 ((F.getD i (0,0,0)).2.1),.int .i64 ((F.getD i (0,0,0)).2.2)]),(22,.map (some b2)),(7,.pointer (some ⟨b9,0,none⟩)),(21,.agg #[.int .i64 ((F.getD i (0,0,0)).2.1),.int .i64 ((F.getD i (0,0,0)).2.2)]),(20,.bool true),(19,.int .i64 1),(32,.int .i64 1),(31,.slice u9_1 (lz0.length+1) u9_2),(28,.slice pz0 (lz0.length) cz0),(27,.agg #[.int .i64 qd1,.int .i64 qd2]),(24,.agg #[.int .i64 qd1,.int .i64 qd2]),(18,.agg #[.int .i64 ((F.getD i (0,0,0)).1),.int .i64 ((F.getD i (0,0,0)).2.1),.int .i64 ((F.getD i (0,0,0)).2.1),.int .i64 ((F.getD i (0,0,0)).2.2),.int .i64 ((F.getD i (0,0,0)).2.2),.int .i64 ((F.getD i (0,0,0)).1)]),(4,.int .i64 ((i:Nat):Int)),(12,.int .i64 ((i:Nat):Int)),(11,.int .i64 ((nf:Nat):Int)),(10,.slice pf nf cf),(3,.map (some b2)),(2,.map none)],[rowA 3 (rI .i64) pz1 cz1 lz1,mapA b2 (fun z:Int×Int=> .agg #[.int .i64 z.1,.int .i64 z.2]) (fun z:Option Addr×Nat×Nat=> .slice z.1 z.2.1 z.2.2) (fun z=>InK .i64 z.1∧InK .i64 z.2) raw1],[emA,allA (mrest 3 (rI .i64) ((min ((F.getD i (0,0,0)).2.1) ((F.getD i (0,0,0)).2.2)),(max ((F.getD i (0,0,0)).2.1) ((F.getD i (0,0,0)).2.2))) raw1 Mq0),boxA b9 68 [.int .i64 ((F.getD i (0,0,0)).2.1),.int .i64 ((F.getD i (0,0,0)).2.2)],emA,boxA b8 68 [.int .i64 ((F.getD i (0,0,0)).1),.int .i64 ((F.getD i (0,0,0)).2.1)],boxA b7 35 [.int .i64 ((F.getD i (0,0,0)).1),.int .i64 ((F.getD i (0,0,0)).2.1),.int .i64 ((F.getD i (0,0,0)).2.2)],boxA b1 32 [.slice pv nv cv,.slice pf nf cf]],[slF (rI .i64) (some ⟨u8_1r2,0,none⟩) 1 ([((i:Nat):Int)]),slF (rI .i64) (some ⟨u8_1,0,none⟩) 1 ([((i:Nat):Int)]),slF (rI3 .i64) pv cv V,slF (rI3 .i64) pf cf F])) ?_ (fun hD6=> ?_)
   ·
    rintro u8_1r2
    dsimp only
    refine zHa 2 kr ?_
    ·
     refine zGa rfl rfl rfl rfl (.c rfl .n) ce30 (zqa (ex:=((F.getD i (0,0,0)).2.1)) (ey:=((F.getD i (0,0,0)).2.2))) (.n) ?_
     exact zH (hD4 u8_1r2) kr (mR rfl) .rfl .rfl ((.of [0,1,2,3] rfl):SelR _ _ _)
   refine zDb 2 8 kr ?_ ?_
   ·
    refine zGa rfl rfl rfl rfl (.c rfl .n) ce30 (zqa (ex:=((F.getD i (0,0,0)).2.1)) (ey:=((F.getD i (0,0,0)).2.2))) (.n) ?_
    exact zH (hD5 ()) kr (mR rfl) .rfl .rfl ((.of [0,1,2] rfl):SelR _ _ _)
   ·
    refine zib rfl rfl rfl rfl (zt (enc:=fun z:Int=>[.int .i64 z]) (ok:=InK .i64) (h1:=fun _=>rfl) (h2:=fun _=>rfl) (k:=1) Try.underlying22 inf3 rfl dd dd dd (.c (x:=((i:Nat):Int)) rfl rfl (fun _ _=>by exact ze.2 om) .n)) (fun u8_1r2 _=> ?_)
    refine zva 0 rfl .z ?_
    exact zH (hD6 u8_1r2) kr (mR rfl) .rfl .rfl ((.of [0,1,2,3] rfl):SelR _ _ _)
  refine zaa (X:=Nat×Option Addr×Nat) (k':=1) (L':=(lb 11 1023)) (fun (u8_1,u9_1,u9_2)=>([(31,.slice u9_1 (lz0.length+1) u9_2),(30,.slice (some ⟨u8_1,0,none⟩) 1 1),(28,.slice pz0 (lz0.length) cz0),(27,.agg #[.int .i64 (min ((F.getD i (0,0,0)).1) ((F.getD i (0,0,0)).2.1)),.int .i64 (max ((F.getD i (0,0,0)).1) ((F.getD i (0,0,0)).2.1))]),(24,.agg #[.int .i64 (min ((F.getD i (0,0,0)).1) ((F.getD i (0,0,0)).2.1)),.int .i64 (max ((F.getD i (0,0,0)).1) ((F.getD i (0,0,0)).2.1))]),(29,.int .i64 ((i:Nat):Int)),(26,.agg #[.int .i64 ((F.getD i (0,0,0)).1),.int .i64 ((F.getD i (0,0,0)).2.1)]),(25,.map (some b2)),(23,.agg #[.int .i64 ((F.getD i (0,0,0)).1),.int .i64 ((F.getD i (0,0,0)).2.1)]),(22,.map (some b2)),(7,.pointer (some ⟨b8,0,none⟩)),(21,.agg #[.int .i64 ((F.getD i (0,0,0)).1),.int .i64 ((F.getD i (0,0,0)).2.1)]),(20,.bool true),(19,.int .i64 0),(18,.agg #[.int .i64 ((F.getD i (0,0,0)).1),.int .i64 ((F.getD i (0,0,0)).2.1),.int .i64 ((F.getD i (0,0,0)).2.1),.int .i64 ((F.getD i (0,0,0)).2.2),.int .i64 ((F.getD i (0,0,0)).2.2),.int .i64 ((F.getD i (0,0,0)).1)]),(4,.int .i64 ((i:Nat):Int)),(12,.int .i64 ((i:Nat):Int)),(11,.int .i64 ((nf:Nat):Int)),(10,.slice pf nf cf),(3,.map (some b2)),(2,.map none)],[rowA 3 (rI .i64) u9_1 u9_2 (lz0++([((i:Nat):Int)])),mapA b2 (fun z:Int×Int=> .agg #[.int .i64 z.1,.int .i64 z.2]) (fun z:Option Addr×Nat×Nat=> .slice z.1 z.2.1 z.2.2) (fun z=>InK .i64 z.1∧InK .i64 z.2) raw0],[emA,allA (mrest 3 (rI .i64) ((min ((F.getD i (0,0,0)).1) ((F.getD i (0,0,0)).2.1)),(max ((F.getD i (0,0,0)).1) ((F.getD i (0,0,0)).2.1))) raw0 (ye (F.take i))),boxA b8 68 [.int .i64 ((F.getD i (0,0,0)).1),.int .i64 ((F.getD i (0,0,0)).2.1)],boxA b7 35 [.int .i64 ((F.getD i (0,0,0)).1),.int .i64 ((F.getD i (0,0,0)).2.1),.int .i64 ((F.getD i (0,0,0)).2.2)],boxA b1 32 [.slice pv nv cv,.slice pf nf cf]],[slF (rI .i64) (some ⟨u8_1,0,none⟩) 1 ([((i:Nat):Int)]),slF (rI3 .i64) pv cv V,slF (rI3 .i64) pf cf F])) ?_ (fun hD1=> ?_)
  ·
   rintro ⟨u8_1,u9_1,u9_2⟩
   dsimp only
   refine zHa 10 kr ?_
   ·
    refine zZa (zK (i:=1) rfl)<|zcb (A':=fun _=>mapA b2 (fun z:Int×Int=> .agg #[.int .i64 z.1,.int .i64 z.2]) (fun z:Option Addr×Nat×Nat=> .slice z.1 z.2.1 z.2.2) (fun z=>InK .i64 z.1∧InK .i64 z.2) (mput raw0 ((min ((F.getD i (0,0,0)).1) ((F.getD i (0,0,0)).2.1)),(max ((F.getD i (0,0,0)).1) ((F.getD i (0,0,0)).2.1))) (u9_1,lz0.length+1,u9_2))) kr rfl rfl rfl (zT (a0:=((min ((F.getD i (0,0,0)).1) ((F.getD i (0,0,0)).2.1)),(max ((F.getD i (0,0,0)).1) ((F.getD i (0,0,0)).2.1)))) (v:=(u9_1,lz0.length+1,u9_2)) ky68 Try.underlying62 rfl rfl rfl (⟨ze.2 om,ze.2 om⟩)) (fun _ _=> ?_)
    exact zH (hD0 (u8_1,u9_1,u9_2)) kr (mR rfl) .rfl .rfl ((.of [0,1,2] rfl):SelR _ _ _)
  refine zaa (X:=Nat) (k':=2) (L':=(lb 11 511)) (fun u8_1=>([(30,.slice (some ⟨u8_1,0,none⟩) 1 1),(28,.slice pz0 (lz0.length) cz0),(27,.agg #[.int .i64 (min ((F.getD i (0,0,0)).1) ((F.getD i (0,0,0)).2.1)),.int .i64 (max ((F.getD i (0,0,0)).1) ((F.getD i (0,0,0)).2.1))]),(24,.agg #[.int .i64 (min ((F.getD i (0,0,0)).1) ((F.getD i (0,0,0)).2.1)),.int .i64 (max ((F.getD i (0,0,0)).1) ((F.getD i (0,0,0)).2.1))]),(29,.int .i64 ((i:Nat):Int)),(26,.agg #[.int .i64 ((F.getD i (0,0,0)).1),.int .i64 ((F.getD i (0,0,0)).2.1)]),(25,.map (some b2)),(23,.agg #[.int .i64 ((F.getD i (0,0,0)).1),.int .i64 ((F.getD i (0,0,0)).2.1)]),(22,.map (some b2)),(7,.pointer (some ⟨b8,0,none⟩)),(21,.agg #[.int .i64 ((F.getD i (0,0,0)).1),.int .i64 ((F.getD i (0,0,0)).2.1)]),(20,.bool true),(19,.int .i64 0),(18,.agg #[.int .i64 ((F.getD i (0,0,0)).1),.int .i64 ((F.getD i (0,0,0)).2.1),.int .i64 ((F.getD i (0,0,0)).2.1),.int .i64 ((F.getD i (0,0,0)).2.2),.int .i64 ((F.getD i (0,0,0)).2.2),.int .i64 ((F.getD i (0,0,0)).1)]),(4,.int .i64 ((i:Nat):Int)),(12,.int .i64 ((i:Nat):Int)),(11,.int .i64 ((nf:Nat):Int)),(10,.slice pf nf cf),(3,.map (some b2)),(2,.map none)],[rowA 3 (rI .i64) pz0 cz0 lz0,mapA b2 (fun z:Int×Int=> .agg #[.int .i64 z.1,.int .i64 z.2]) (fun z:Option Addr×Nat×Nat=> .slice z.1 z.2.1 z.2.2) (fun z=>InK .i64 z.1∧InK .i64 z.2) raw0],[emA,allA (mrest 3 (rI .i64) ((min ((F.getD i (0,0,0)).1) ((F.getD i (0,0,0)).2.1)),(max ((F.getD i (0,0,0)).1) ((F.getD i (0,0,0)).2.1))) raw0 (ye (F.take i))),boxA b8 68 [.int .i64 ((F.getD i (0,0,0)).1),.int .i64 ((F.getD i (0,0,0)).2.1)],boxA b7 35 [.int .i64 ((F.getD i (0,0,0)).1),.int .i64 ((F.getD i (0,0,0)).2.1),.int .i64 ((F.getD i (0,0,0)).2.2)],boxA b1 32 [.slice pv nv cv,.slice pf nf cf]],[slF (rI .i64) (some ⟨u8_1,0,none⟩) 1 ([((i:Nat):Int)]),slF (rI3 .i64) pv cv V,slF (rI3 .i64) pf cf F])) ?_ (fun hD2=> ?_)
  ·
   rintro u8_1
   dsimp only
   refine zHa 9 kr ?_
   ·
    refine zcb (A':=fun v:Option Addr×Nat=>rowA 3 (rI .i64) v.1 v.2 (lz0++([((i:Nat):Int)]))) kr rfl rfl rfl (zea 0 rfl Try.underlying22 inf3 dd rfl rfl (by first|rfl|assumption|(simp;done)|omega) rfl (by first|rfl|assumption|(simp;done)|omega) om om) ?_
    rintro ⟨u9_1,u9_2⟩ -
    dsimp only [aq,nq,cq]
    exact zH (hD1 (u8_1,u9_1,u9_2)) kr (mR rfl) .rfl .rfl ((.of [0,1,2] rfl):SelR _ _ _)
  refine zaa (X:=Unit) (k':=3) (L':=(lb 11 255)) (fun _=>([(28,.slice pz0 (lz0.length) cz0),(27,.agg #[.int .i64 (min ((F.getD i (0,0,0)).1) ((F.getD i (0,0,0)).2.1)),.int .i64 (max ((F.getD i (0,0,0)).1) ((F.getD i (0,0,0)).2.1))]),(24,.agg #[.int .i64 (min ((F.getD i (0,0,0)).1) ((F.getD i (0,0,0)).2.1)),.int .i64 (max ((F.getD i (0,0,0)).1) ((F.getD i (0,0,0)).2.1))]),(29,.int .i64 ((i:Nat):Int)),(26,.agg #[.int .i64 ((F.getD i (0,0,0)).1),.int .i64 ((F.getD i (0,0,0)).2.1)]),(25,.map (some b2)),(23,.agg #[.int .i64 ((F.getD i (0,0,0)).1),.int .i64 ((F.getD i (0,0,0)).2.1)]),(22,.map (some b2)),(7,.pointer (some ⟨b8,0,none⟩)),(21,.agg #[.int .i64 ((F.getD i (0,0,0)).1),.int .i64 ((F.getD i (0,0,0)).2.1)]),(20,.bool true),(19,.int .i64 0),(18,.agg #[.int .i64 ((F.getD i (0,0,0)).1),.int .i64 ((F.getD i (0,0,0)).2.1),.int .i64 ((F.getD i (0,0,0)).2.1),.int .i64 ((F.getD i (0,0,0)).2.2),.int .i64 ((F.getD i (0,0,0)).2.2),.int .i64 ((F.getD i (0,0,0)).1)]),(4,.int .i64 ((i:Nat):Int)),(12,.int .i64 ((i:Nat):Int)),(11,.int .i64 ((nf:Nat):Int)),(10,.slice pf nf cf),(3,.map (some b2)),(2,.map none)],[rowA 3 (rI .i64) pz0 cz0 lz0,mapA b2 (fun z:Int×Int=> .agg #[.int .i64 z.1,.int .i64 z.2]) (fun z:Option Addr×Nat×Nat=> .slice z.1 z.2.1 z.2.2) (fun z=>InK .i64 z.1∧InK .i64 z.2) raw0],[allA (mrest 3 (rI .i64) ((min ((F.getD i (0,0,0)).1) ((F.getD i (0,0,0)).2.1)),(max ((F.getD i (0,0,0)).1) ((F.getD i (0,0,0)).2.1))) raw0 (ye (F.take i))),boxA b8 68 [.int .i64 ((F.getD i (0,0,0)).1),.int .i64 ((F.getD i (0,0,0)).2.1)],boxA b7 35 [.int .i64 ((F.getD i (0,0,0)).1),.int .i64 ((F.getD i (0,0,0)).2.1),.int .i64 ((F.getD i (0,0,0)).2.2)],boxA b1 32 [.slice pv nv cv,.slice pf nf cf]],[slF (rI3 .i64) pv cv V,slF (rI3 .i64) pf cf F])) ?_ (fun hD3=> ?_)
  ·
   rintro ⟨⟩
   dsimp only
   refine zHa 8 kr ?_
   ·
    refine zib rfl rfl rfl rfl (zt (enc:=fun z:Int=>[.int .i64 z]) (ok:=InK .i64) (h1:=fun _=>rfl) (h2:=fun _=>rfl) (k:=1) Try.underlying22 inf3 rfl dd dd dd (.c (x:=((i:Nat):Int)) rfl rfl (fun _ _=>by exact ze.2 om) .n)) (fun u8_1 _=> ?_)
    refine zva 0 rfl .z ?_
    exact zH (hD2 u8_1) kr (mR rfl) .rfl .rfl ((.of [0,1,2] rfl):SelR _ _ _)
  refine zaa (X:=Nat) (k':=4) (L':=(lb 11 415)) (fun u8_1=>([(30,.slice (some ⟨u8_1,0,none⟩) 1 1),(24,.agg #[.int .i64 (min ((F.getD i (0,0,0)).1) ((F.getD i (0,0,0)).2.1)),.int .i64 (max ((F.getD i (0,0,0)).1) ((F.getD i (0,0,0)).2.1))]),(29,.int .i64 ((i:Nat):Int)),(26,.agg #[.int .i64 ((F.getD i (0,0,0)).1),.int .i64 ((F.getD i (0,0,0)).2.1)]),(25,.map (some b2)),(23,.agg #[.int .i64 ((F.getD i (0,0,0)).1),.int .i64 ((F.getD i (0,0,0)).2.1)]),(22,.map (some b2)),(7,.pointer (some ⟨b8,0,none⟩)),(21,.agg #[.int .i64 ((F.getD i (0,0,0)).1),.int .i64 ((F.getD i (0,0,0)).2.1)]),(20,.bool true),(19,.int .i64 0),(18,.agg #[.int .i64 ((F.getD i (0,0,0)).1),.int .i64 ((F.getD i (0,0,0)).2.1),.int .i64 ((F.getD i (0,0,0)).2.1),.int .i64 ((F.getD i (0,0,0)).2.2),.int .i64 ((F.getD i (0,0,0)).2.2),.int .i64 ((F.getD i (0,0,0)).1)]),(4,.int .i64 ((i:Nat):Int)),(12,.int .i64 ((i:Nat):Int)),(11,.int .i64 ((nf:Nat):Int)),(10,.slice pf nf cf),(3,.map (some b2)),(2,.map none)],[rowA 3 (rI .i64) pz0 cz0 lz0,mapA b2 (fun z:Int×Int=> .agg #[.int .i64 z.1,.int .i64 z.2]) (fun z:Option Addr×Nat×Nat=> .slice z.1 z.2.1 z.2.2) (fun z=>InK .i64 z.1∧InK .i64 z.2) raw0],[emA,allA (mrest 3 (rI .i64) ((min ((F.getD i (0,0,0)).1) ((F.getD i (0,0,0)).2.1)),(max ((F.getD i (0,0,0)).1) ((F.getD i (0,0,0)).2.1))) raw0 (ye (F.take i))),boxA b8 68 [.int .i64 ((F.getD i (0,0,0)).1),.int .i64 ((F.getD i (0,0,0)).2.1)],boxA b7 35 [.int .i64 ((F.getD i (0,0,0)).1),.int .i64 ((F.getD i (0,0,0)).2.1),.int .i64 ((F.getD i (0,0,0)).2.2)],boxA b1 32 [.slice pv nv cv,.slice pf nf cf]],[slF (rI .i64) (some ⟨u8_1,0,none⟩) 1 ([((i:Nat):Int)]),slF (rI3 .i64) pv cv V,slF (rI3 .i64) pf cf F])) ?_ (fun hD4=> ?_)
  ·
   rintro u8_1
   dsimp only
   refine zHa 5 kr ?_
   ·
    refine zGa rfl rfl rfl rfl (.c rfl .n) ce30 (zqa (ex:=((F.getD i (0,0,0)).1)) (ey:=((F.getD i (0,0,0)).2.1))) (.n)<|e_uw 6 rfl rfl (zfa (z:=(none,0,0)) (a0:=((min ((F.getD i (0,0,0)).1) ((F.getD i (0,0,0)).2.1)),(max ((F.getD i (0,0,0)).1) ((F.getD i (0,0,0)).2.1)))) (v:= .slice pz0 (lz0.length) cz0) 1 rfl ky68 Try.underlying62 zr22 rfl rfl (⟨ze.2 om,ze.2 om⟩) (by rw [hgt0])) ?_
    exact zH (hD2 u8_1) kr (mR rfl) .rfl .rfl ((.of [0,1,2] rfl):SelR _ _ _)
  refine zaa (X:=Unit) (k':=5) (L':=(lb 11 159)) (fun _=>([(24,.agg #[.int .i64 (min ((F.getD i (0,0,0)).1) ((F.getD i (0,0,0)).2.1)),.int .i64 (max ((F.getD i (0,0,0)).1) ((F.getD i (0,0,0)).2.1))]),(29,.int .i64 ((i:Nat):Int)),(26,.agg #[.int .i64 ((F.getD i (0,0,0)).1),.int .i64 ((F.getD i (0,0,0)).2.1)]),(25,.map (some b2)),(23,.agg #[.int .i64 ((F.getD i (0,0,0)).1),.int .i64 ((F.getD i (0,0,0)).2.1)]),(22,.map (some b2)),(7,.pointer (some ⟨b8,0,none⟩)),(21,.agg #[.int .i64 ((F.getD i (0,0,0)).1),.int .i64 ((F.getD i (0,0,0)).2.1)]),(20,.bool true),(19,.int .i64 0),(18,.agg #[.int .i64 ((F.getD i (0,0,0)).1),.int .i64 ((F.getD i (0,0,0)).2.1),.int .i64 ((F.getD i (0,0,0)).2.1),.int .i64 ((F.getD i (0,0,0)).2.2),.int .i64 ((F.getD i (0,0,0)).2.2),.int .i64 ((F.getD i (0,0,0)).1)]),(4,.int .i64 ((i:Nat):Int)),(12,.int .i64 ((i:Nat):Int)),(11,.int .i64 ((nf:Nat):Int)),(10,.slice pf nf cf),(3,.map (some b2)),(2,.map none)],[rowA 3 (rI .i64) pz0 cz0 lz0,mapA b2 (fun z:Int×Int=> .agg #[.int .i64 z.1,.int .i64 z.2]) (fun z:Option Addr×Nat×Nat=> .slice z.1 z.2.1 z.2.2) (fun z=>InK .i64 z.1∧InK .i64 z.2) raw0],[allA (mrest 3 (rI .i64) ((min ((F.getD i (0,0,0)).1) ((F.getD i (0,0,0)).2.1)),(max ((F.getD i (0,0,0)).1) ((F.getD i (0,0,0)).2.1))) raw0 (ye (F.take i))),boxA b8 68 [.int .i64 ((F.getD i (0,0,0)).1),.int .i64 ((F.getD i (0,0,0)).2.1)],boxA b7 35 [.int .i64 ((F.getD i (0,0,0)).1),.int .i64 ((F.getD i (0,0,0)).2.1),.int .i64 ((F.getD i (0,0,0)).2.2)],boxA b1 32 [.slice pv nv cv,.slice pf nf cf]],[slF (rI3 .i64) pv cv V,slF (rI3 .i64) pf cf F])) ?_ (fun hD5=> ?_)
  ·
   rintro ⟨⟩
   dsimp only
   refine zDb 5 8 kr ?_ ?_
   ·
    refine zGa rfl rfl rfl rfl (.c rfl .n) ce30 (zqa (ex:=((F.getD i (0,0,0)).1)) (ey:=((F.getD i (0,0,0)).2.1))) (.n)<|e_uw 6 rfl rfl (zfa (z:=(none,0,0)) (a0:=((min ((F.getD i (0,0,0)).1) ((F.getD i (0,0,0)).2.1)),(max ((F.getD i (0,0,0)).1) ((F.getD i (0,0,0)).2.1)))) (v:= .slice pz0 (lz0.length) cz0) 1 rfl ky68 Try.underlying62 zr22 rfl rfl (⟨ze.2 om,ze.2 om⟩) (by rw [hgt0])) ?_
    exact zH (hD3 ()) kr (mR rfl) .rfl .rfl ((.of [0,1] rfl):SelR _ _ _)
   ·
    refine zib rfl rfl rfl rfl (zt (enc:=fun z:Int=>[.int .i64 z]) (ok:=InK .i64) (h1:=fun _=>rfl) (h2:=fun _=>rfl) (k:=1) Try.underlying22 inf3 rfl dd dd dd (.c (x:=((i:Nat):Int)) rfl rfl (fun _ _=>by exact ze.2 om) .n)) (fun u8_1 _=> ?_)
    refine zva 0 rfl .z ?_
    exact zH (hD4 u8_1) kr (mR rfl) .rfl .rfl ((.of [0,1,2] rfl):SelR _ _ _)
  refine zaa (X:=Nat) (k':=5) (L':=(lb 11 411)) (fun u8_1=>([(30,.slice (some ⟨u8_1,0,none⟩) 1 1),(29,.int .i64 ((i:Nat):Int)),(26,.agg #[.int .i64 ((F.getD i (0,0,0)).1),.int .i64 ((F.getD i (0,0,0)).2.1)]),(25,.map (some b2)),(23,.agg #[.int .i64 ((F.getD i (0,0,0)).1),.int .i64 ((F.getD i (0,0,0)).2.1)]),(22,.map (some b2)),(7,.pointer (some ⟨b8,0,none⟩)),(21,.agg #[.int .i64 ((F.getD i (0,0,0)).1),.int .i64 ((F.getD i (0,0,0)).2.1)]),(20,.bool true),(19,.int .i64 0),(18,.agg #[.int .i64 ((F.getD i (0,0,0)).1),.int .i64 ((F.getD i (0,0,0)).2.1),.int .i64 ((F.getD i (0,0,0)).2.1),.int .i64 ((F.getD i (0,0,0)).2.2),.int .i64 ((F.getD i (0,0,0)).2.2),.int .i64 ((F.getD i (0,0,0)).1)]),(4,.int .i64 ((i:Nat):Int)),(12,.int .i64 ((i:Nat):Int)),(11,.int .i64 ((nf:Nat):Int)),(10,.slice pf nf cf),(3,.map (some b2)),(2,.map none)],[rowA 3 (rI .i64) pz0 cz0 lz0,mapA b2 (fun z:Int×Int=> .agg #[.int .i64 z.1,.int .i64 z.2]) (fun z:Option Addr×Nat×Nat=> .slice z.1 z.2.1 z.2.2) (fun z=>InK .i64 z.1∧InK .i64 z.2) raw0],[emA,allA (mrest 3 (rI .i64) ((min ((F.getD i (0,0,0)).1) ((F.getD i (0,0,0)).2.1)),(max ((F.getD i (0,0,0)).1) ((F.getD i (0,0,0)).2.1))) raw0 (ye (F.take i))),boxA b8 68 [.int .i64 ((F.getD i (0,0,0)).1),.int .i64 ((F.getD i (0,0,0)).2.1)],boxA b7 35 [.int .i64 ((F.getD i (0,0,0)).1),.int .i64 ((F.getD i (0,0,0)).2.1),.int .i64 ((F.getD i (0,0,0)).2.2)],boxA b1 32 [.slice pv nv cv,.slice pf nf cf]],[slF (rI .i64) (some ⟨u8_1,0,none⟩) 1 ([((i:Nat):Int)]),slF (rI3 .i64) pv cv V,slF (rI3 .i64) pf cf F])) ?_ (fun hD6=> ?_)
  ·
   rintro u8_1
   dsimp only
   refine zHa 2 kr ?_
   ·
    refine zGa rfl rfl rfl rfl (.c rfl .n) ce30 (zqa (ex:=((F.getD i (0,0,0)).1)) (ey:=((F.getD i (0,0,0)).2.1))) (.n) ?_
    exact zH (hD4 u8_1) kr (mR rfl) .rfl .rfl ((.of [0,1,2] rfl):SelR _ _ _)
  refine zDb 2 8 kr ?_ ?_
  ·
   refine zGa rfl rfl rfl rfl (.c rfl .n) ce30 (zqa (ex:=((F.getD i (0,0,0)).1)) (ey:=((F.getD i (0,0,0)).2.1))) (.n) ?_
   exact zH (hD5 ()) kr (mR rfl) .rfl .rfl ((.of [0,1] rfl):SelR _ _ _)
  ·
   refine zib rfl rfl rfl rfl (zt (enc:=fun z:Int=>[.int .i64 z]) (ok:=InK .i64) (h1:=fun _=>rfl) (h2:=fun _=>rfl) (k:=1) Try.underlying22 inf3 rfl dd dd dd (.c (x:=((i:Nat):Int)) rfl rfl (fun _ _=>by exact ze.2 om) .n)) (fun u8_1 _=> ?_)
   refine zva 0 rfl .z ?_
   exact zH (hD6 u8_1) kr (mR rfl) .rfl .rfl ((.of [0,1,2] rfl):SelR _ _ _)
 ·
  refine zP<|zj<|zj<|zo<|zc<|zf ?_
  have e11:ye (F.take i)=ye F:=by rw [List.take_of_length_le om]
  rw [e11]
  refine zvc (fun w mm=>mm.mrFreeze 0 rfl) ?_
  rintro rawZ hrawZ
  dsimp only [List.set]
  refine za<|e_mv rfl<|e_p (zd rfl)<|zi<|zc<|zU ?_
  exact zO Try.results21 (b2,rawZ) hrawZ (zx rfl) rfl (ho:=(o0 rfl)) (s0 rfl)
end Go.Proofs.Ytpdbimfnhglhpaa.Sp
namespace Go.Proofs.Ytpdbimfnhglhpaa.Sp
open Go
set_option linter.unusedVariables false
set_option maxRecDepth 100000
set_option maxHeartbeats 8000000
theorem zec {pv:Option Addr} {nv:Nat} {cv:Nat} {V:List (Int×Int×Int)} {pf:Option Addr} {nf:Nat} {cf:Nat} {F:List (Int×Int×Int)} (hnv:V.length=nv) (hnf:F.length=nf):Con Try.prog 9 [.agg #[.slice pv nv cv,.slice pf nf cf]] [] [slF (rI3 .i64) pv cv V,slF (rI3 .i64) pf cf F] (Y:=Unit) (fun y=>True) (fun y=> .tuple #[.int .i64 (yt V F),.int .i64 (yj V F)]) (fun y=>[]) (fun y=>[]):=by
 refine zC Try.func9 rfl rfl rfl (fun c=> ?_)
 show RunC _ _ _ _ _ [(0,.agg #[.slice pv nv cv,.slice pf nf cf])] [] [slF (rI3 .i64) pv cv V,slF (rI3 .i64) pf cf F]
 refine zpa 0 rfl (fun hL0=> ?_)
 refine zpa 1 rfl (fun hL1=> ?_)
 refine zf<|za<|zZ rfl rfl (zka rfl rfl) (fun b1=> ?_)
 refine e_p (zd rfl)<|e_p (zd rfl)<|zi<|zc<|zf<|zf<|za<|e_ru (zm 0 ty32 rfl rfl (.t2 .nil))<|zia rfl rfl (.c rfl .n) ce13 (zbb (pv:=pv) (nv:=nv) (cv:=cv) (V:=V) (pf:=pf) (nf:=nf) (cf:=cf) (F:=F) (hnv:=ass) (hnf:=ass)) (.c (j:=0) rfl (.c (j:=1) rfl .n))<|e_p (zd rfl)<|zi<|zc<|zf<|za<|e_mv rfl<|e_p (zOa rfl rfl)<|zi<|zc<|zG rfl (fun hcode=> ?_) (fun hcode=> ?_)
 ·
  refine zf<|za<|e_mv rfl<|e_p (zd rfl)<|e_p (zd rfl)<|zi<|zc<|zU<|zl ?_
  have hz:yt V F=0:=by unfold yt;rw [if_neg hcode]
  exact zLa Try.results9 () trivial (zx rfl) (zx rfl) (by rw [hz]) (ho:=oN) sN
 ·
  have hc0:=Decidable.not_not.1 hcode
  have hf0:=yz hc0
  have hg:=yq.1 hf0
  have hnv5:nv≤512:=by have:=hg.nv;omega
  have hnf5:nf≤1024:=by have:=hg.nf;omega
  refine zw<|zc<|zf<|za<|zwa rfl rfl (zla (κ:=Int) (ν:=Bool) (fun z:Int=> .int .i64 z) (fun z:Bool=> .bool z) (InK .i64)) (fun b2 _=> ?_)
  refine e_p (zd rfl)<|zi<|zc<|zf<|zf<|za<|e_p (zg Try.underlying32 rfl sz30 rfl rfl)<|e_ru (zb 1 ty30 rfl rfl rfl)<|e_p (zR Try.underlying30 rfl)<|e_mv rfl<|zi<|zc<|zq<|zY (X:=Nat) (fun x:Nat=>x≤nf) (fun x=>[(19,.int .i64 ((x:Nat):Int)),(18,.int .i64 ((nf:Nat):Int)),(17,.slice pf nf cf),(5,.map (some b2)),(3,.int .i64 0),(2,.int .i64 0),(1,.pointer (some ⟨b1,0,none⟩))]) (fun x=>[mapA b2 (fun z:Int=> .int .i64 z) (fun z:Bool=> .bool z) (InK .i64) (yB (F.take x)),boxA b1 32 [.slice pv nv cv,.slice pf nf cf]]) (fun x=>[slF (rI3 .i64) pv cv V,slF (rI3 .i64) pf cf F]) (fun x:Nat=>nf - x) 0 (show 0≤nf from by exact Nat.zero_le _) ((.e rfl cgs (.of rfl)):SubM _ _) (ho:=((.e (i:=0) rfl (by rfl) (.c (i:=0) rfl .n)):PickO _ _ _)) ((.of [0,1] rfl):SelR _ _ _) ?_
  rintro i hI
  replace hI:i≤nf:=hI
  try dsimp only
  refine zf<|za<|e_p (zD rfl rfl)<|zi<|zc<|zf<|zG rfl (fun h3=> ?_) (fun h3=> ?_)
  ·
   have hat:=hg.at (show i<F.length by omega)
   refine zw<|zc<|zf<|zq<|zf<|za<|zM (x0:=(F.getD i (0,0,0))) 1 i rfl Try.underlying30 sz35 rfl rfl rfl cbs rfl rfl (gD (d:=(0,0,0)) om) (fun b4 o5 hok6=> ?_)
   obtain ⟨hok6x,hok6y,hok6z⟩:=hok6
   replace hok6x:=ze.1 hok6x
   replace hok6y:=ze.1 hok6y
   replace hok6z:=ze.1 hok6z
   refine e_ru (zJ (j:=0) 0 ty35 rfl rfl rfl (.t2 (.take .nil)))<|zZ rfl rfl (zF zr35 rfl) (fun b7=> ?_)
   refine zE 0 rfl rfl rfl rfl rfl sz35 rfl (.t2 (.take .nil)) .z<|zi<|zc<|zf<|za<|e_ru (zm 0 ty35 rfl rfl (.t2 (.take .nil)))<|e_mv rfl<|zi<|zc<|zq<|zeb<|zX<|zf<|za<|e_p (zD rfl rfl)<|zi<|zc<|zf<|zW rfl rfl<|zw<|zc<|zf<|zq<|zf<|za<|e_p (zha (i:=0) Try.underlying35 ty3 rfl rfl dd rfl)<|e_p (zd rfl)<|zi<|zc<|za<|e_mv rfl<|e_mv rfl<|zna 1 rfl rfl rfl (zT (a0:=(F.getD i (0,0,0)).1) (v:=true) ky3 Try.underlying61 rfl rfl rfl (ze.2 om)) (fun _=>(.s .z)) (fun _ _=> ?_)
   refine zi<|zB<|zc<|za<|e_p (zv (z:=1) rfl rfl (w64 dd))<|e_mv rfl<|zi<|zja<|zX<|zf<|za<|e_p (zD rfl rfl)<|zi<|zc<|zf<|zW rfl rfl<|zw<|zc<|zf<|zq<|zf<|za<|e_p (zha (i:=1) Try.underlying35 ty3 rfl rfl dd rfl)<|e_p (zd rfl)<|zi<|zc<|za<|e_mv rfl<|e_mv rfl<|zna 1 rfl rfl rfl (zT (a0:=(F.getD i (0,0,0)).2.1) (v:=true) ky3 Try.underlying61 rfl rfl rfl (ze.2 om)) (fun _=>(.s .z)) (fun _ _=> ?_)
   refine zi<|zB<|zc<|za<|e_p (zv (z:=2) rfl rfl (w64 dd))<|e_mv rfl<|zi<|zja<|zX<|zf<|za<|e_p (zD rfl rfl)<|zi<|zc<|zf<|zW rfl rfl<|zw<|zc<|zf<|zq<|zf<|za<|e_p (zha (i:=2) Try.underlying35 ty3 rfl rfl dd rfl)<|e_p (zd rfl)<|zi<|zc<|za<|e_mv rfl<|e_mv rfl<|zna 1 rfl rfl rfl (zT (a0:=(F.getD i (0,0,0)).2.2) (v:=true) ky3 Try.underlying61 rfl rfl rfl (ze.2 om)) (fun _=>(.s .z)) (fun _ _=> ?_)
   refine zi<|zB<|zc<|za<|e_p (zv (z:=3) rfl rfl (w64 dd))<|e_mv rfl<|zi<|zja<|zX<|zf<|za<|e_p (zD rfl rfl)<|zi<|zc<|zf<|zEa rfl rfl<|zP<|zj<|zj<|zo<|zB<|zc<|za<|e_p (zv (z:=(((i+1):Nat):Int)) rfl rfl (w64 om))<|e_mv rfl<|zi<|zQ (i+1) (show (i+1)≤nf from by exact (by omega:i+1≤nf)) (by show nf - (i+1)<nf - i;omega) (mR rfl) (ho:=((.e (i:=1) rfl (by rw [Ms.usedM_take om]) (.c (i:=1) rfl .n)):PickO _ _ _)) ((.of [1,2] rfl):SelR _ _ _)
  ·
   have hul:=Ms.usedM_len F
   have hsn:=Ms.sidesN_len F
   refine zP<|zj<|zj<|zo<|zc<|zf ?_
   have e8:yB (F.take i)=yB F:=by rw [List.take_of_length_le om]
   rw [e8]
   refine zsa (OW:=[]) (O:=[mapA b2 (fun z:Int=> .int .i64 z) (fun z:Bool=> .bool z) (InK .i64) (yB F),boxA b1 32 [.slice pv nv cv,.slice pf nf cf]]) 100000 mixed (.then .ret) kr<|e_dm 0 rfl rfl rfl<|e_u 1 rfl rfl (zkb (encK:=(fun z:Int=> .int .i64 z)) (encV:=(fun z:Bool=> .bool z)) (ok:=(InK .i64)) (m:=yB F) 0 rfl Try.underlying61 rfl)<|e_u 2 rfl rfl (zm 1 ty32 rfl rfl (.t2 .nil))<|e_pv 6 rfl rfl (zg Try.underlying32 rfl sz30 rfl rfl)<|e_u 7 rfl rfl (zb 1 ty30 rfl rfl rfl)<|e_pv 8 rfl rfl (zR Try.underlying30 rfl)<|e_one 3 (znb rfl rfl rfl rfl (.c rfl .n) ce21 (zdc (pv:=pv) (nv:=nv) (cv:=cv) (V:=V) (pf:=pf) (nf:=nf) (cf:=cf) (F:=F) (hnv:=ass) (hnf:=ass) (hg:=cbb)) (.c (j:=0) rfl (.c (j:=1) rfl .n)) ?_)
   rintro ⟨bZ,rawZ⟩ hraw
   dsimp only [aq,nq,cq]
   replace hraw:Raw rawZ (ye F):=hraw
   refine e_u 4 rfl rfl (zkb (encK:=(fun z:Int×Int=> .agg #[.int .i64 z.1,.int .i64 z.2])) (encV:=(fun z:Option Addr×Nat×Nat=> .slice z.1 z.2.1 z.2.2)) (ok:=(fun z=>InK .i64 z.1∧InK .i64 z.2)) (m:=rawZ) 0 rfl Try.underlying62 rfl) ?_
   have hrl:=hraw.length
   refine e_pv 5 rfl rfl (zxa (z:=((((yB F).length:Nat):Int) - (((rawZ).length:Nat):Int))) rfl rfl (w64 om))<|e_pv 9 rfl rfl (zv (z:=(((((yB F).length:Nat):Int) - (((rawZ).length:Nat):Int))+((nf:Nat):Int))) rfl rfl (w64 om))<|e_pv 10 rfl rfl (zd rfl)<|e_pv 11 rfl rfl (zd rfl)<|zra kr<|zc<|zU ?_
   have hz:yt V F=Ms.eulerP F:=by unfold yt;rw [if_pos hc0]
   exact zLa Try.results9 () trivial (zx rfl) (zx rfl) (by rw [hz,hc0,Ms.eulerP,hnf,hraw.length]) (ho:=oN) sN
end Go.Proofs.Ytpdbimfnhglhpaa.Sp
namespace Go.Proofs.Ytpdbimfnhglhpaa.Sp
open Go
set_option linter.unusedVariables false
set_option maxRecDepth 100000
set_option maxHeartbeats 8000000
theorem zVc {pv:Option Addr} {nv:Nat} {cv:Nat} {V:List (Int×Int×Int)} {pf:Option Addr} {nf:Nat} {cf:Nat} {F:List (Int×Int×Int)} (hnv:V.length=nv) (hnf:F.length=nf):Con Try.prog 11 [.agg #[.slice pv nv cv,.slice pf nf cf]] [] [slF (rI3 .i64) pv cv V,slF (rI3 .i64) pf cf F] (Y:=(Option Addr)×Nat) (fun y=>True) (fun y=> .tuple #[.slice (y.1) ((if yj V F=0 then yn F else []).length) (y.2),.int .i64 (yj V F)]) (fun y=>[]) (fun y=>[slF (rI .i64) (y.1) (y.2) (if yj V F=0 then yn F else [])]):=by
  refine zC Try.func11 rfl rfl rfl (fun c=> ?_)
  show RunC _ _ _ _ _ [(0,.agg #[.slice pv nv cv,.slice pf nf cf])] [] [slF (rI3 .i64) pv cv V,slF (rI3 .i64) pf cf F]
  refine zpa 0 rfl (fun hL0=> ?_)
  refine zpa 1 rfl (fun hL1=> ?_)
  refine zf<|za<|zZ rfl rfl (zka rfl rfl) (fun b1=> ?_)
  refine e_p (zd rfl)<|e_p (zd rfl)<|zi<|zc<|zf<|zf<|za<|e_ru (zm 0 ty32 rfl rfl (.t2 .nil))<|zia rfl rfl (.c rfl .n) ce13 (zbb (pv:=pv) (nv:=nv) (cv:=cv) (V:=V) (pf:=pf) (nf:=nf) (cf:=cf) (F:=F) (hnv:=ass) (hnf:=ass)) (.c (j:=0) rfl (.c (j:=1) rfl .n))<|e_p (zd rfl)<|zi<|zc<|zf<|za<|e_mv rfl<|e_p (zOa rfl rfl)<|zi<|zc<|zG rfl (fun hcode=> ?_) (fun hcode=> ?_)
  ·
    refine zf<|za<|e_mv rfl<|e_p (zd rfl)<|e_p (zd rfl)<|zi<|zc<|zU<|zl ?_
    have hz:(if yj V F=0 then yn F else [])=[]:=if_neg hcode
    refine zHc (rI .i64) ?_
    exact zLa Try.results11 (none,0) trivial (zx rfl) (zx rfl) (by rw [hz];rfl) (ho:=oN) ((.e (j:=0) rfl (by rw [hz]) .n):SelR _ _ _)
  ·
    have hc0:=Decidable.not_not.1 hcode
    have hf0:=yz hc0
    have hg:=yq.1 hf0
    have hnv5:nv≤512:=by have:=hg.nv;omega
    have hnf5:nf≤1024:=by have:=hg.nf;omega
    refine zw<|zc<|zf<|za<|zwa rfl rfl (zla (κ:=Int) (ν:=Int) (fun z:Int=> .int .i64 z) (fun z:Int=> .int .i64 z) (InK .i64)) (fun b2 _=> ?_)
    refine e_p (zd rfl)<|zi<|zc<|zf<|zf<|za<|e_ru (zm 1 ty32 rfl rfl (.t2 .nil))<|zFa rfl rfl (.c rfl .n) ce21 (zdc (pv:=pv) (nv:=nv) (cv:=cv) (V:=V) (pf:=pf) (nf:=nf) (cf:=cf) (F:=F) (hnv:=ass) (hnf:=ass) (hg:=cbb)) (.c (j:=0) rfl (.c (j:=1) rfl .n)) ?_
    rintro ⟨bZ,rawZ⟩ hraw
    dsimp only [aq,nq,cq]
    replace hraw:Raw rawZ (ye F):=hraw
    refine zna 0 rfl rfl rfl (ztc Try.underlying62 rfl) (fun _=> .z) (fun it3 _=> ?_)
    refine zi<|zc<|zq<|zY (X:=(List ((Int×Int)×Tri))×(List (Int×Int))) (fun x:(List ((Int×Int)×Tri))×(List (Int×Int))=>Ms.UC (Ms.Lof F (x.1.map Prod.fst)) x.2∧(x.1.map Prod.fst).Nodup∧∀q∈x.1.map Prod.fst,q∈rawZ.map Prod.fst) (fun x=>[(24,.pointer (some ⟨it3,0,none⟩)),(5,.map (some b2)),(3,.int .i64 0),(2,.slice none 0 0),(1,.pointer (some ⟨b1,0,none⟩))]) (fun x=>[itA bZ it3 (fun z:Int×Int=> .agg #[.int .i64 z.1,.int .i64 z.2]) (fun z:Option Addr×Nat×Nat=> .slice z.1 z.2.1 z.2.2) (fun z=>InK .i64 z.1∧InK .i64 z.2) rawZ (x.1),mapA b2 (fun z:Int=> .int .i64 z) (fun z:Int=> .int .i64 z) (InK .i64) (x.2),boxA b1 32 [.slice pv nv cv,.slice pf nf cf]]) (fun x=>[rawF (rI .i64) rawZ (ye F),slF (rI3 .i64) pv cv V,slF (rI3 .i64) pf cf F]) (fun x:(List ((Int×Int)×Tri))×(List (Int×Int))=>rawZ.length - x.1.length) (([]:List ((Int×Int)×Tri)),([]:List (Int×Int))) (show Ms.UC (Ms.Lof F (([]:List ((Int×Int)×Tri)).map Prod.fst)) ([]:List (Int×Int))∧(([]:List ((Int×Int)×Tri)).map Prod.fst).Nodup∧∀q∈([]:List ((Int×Int)×Tri)).map Prod.fst,q∈rawZ.map Prod.fst from by exact ⟨Ms.UC.nil,by simp,fun q h=>(by cases h)⟩) (mR rfl) (ho:=((.e (i:=0) rfl cgs (.e (i:=0) rfl cgs (.c (i:=0) rfl .n))):PickO _ _ _)) ((.of [0,1,2] rfl):SelR _ _ _) ?_
    rintro ⟨vis,uu⟩ hBB
    replace hBB:Ms.UC (Ms.Lof F (vis.map Prod.fst)) uu∧(vis.map Prod.fst).Nodup∧∀q∈vis.map Prod.fst,q∈rawZ.map Prod.fst:=hBB
    try dsimp only
    obtain ⟨hB,hBn,hBs⟩:=hBB
    refine zf<|za<|zfd 0 rfl rfl rfl rfl (fun _=> .z) (fun e hem hen=> ?_) (fun hperm=> ?_)
    ·
      have hsl9:(yk F e.1).length≤3*F.length:=Ms.sides_len F e.1
      have hdl:((yk F e.1).drop 1).length=(yk F e.1).length - 1:=List.length_drop
      have hkey:e.1∈(ye F).map (·.1):=by rw [← hraw.keys];exact List.mem_map_of_mem hem
      have hslp:=Ms.sl_ne hkey
      have hx0:=Ms.sl_rng (F:=F) (k:=e.1) (Ms.getD_mem (l:=(yk F e.1)) (i:=0) 0 hslp)
      refine e_p (zy rfl rfl)<|zi<|zc<|zf<|zW rfl rfl<|zw<|zc<|zq<|zf<|za<|e_ru (zuc (p:=e) 0 rfl rfl)<|e_p (zy rfl rfl)<|e_p (zd rfl)<|zi<|zc<|zf ?_
      have e4:e.2=((mget rawZ e.1).getD (none,0,0)):=by rw [Ms.mget_of_mem (by rw [hraw.keys];exact Ms.sides_nodup F) hem];rfl
      rw [e4]
      refine zZc 0 rfl e.1 (fun p5 c6 hg7=> ?_)
      rw [hg7]
      dsimp only
      have e8:((mget (ye F) e.1).getD [])=(yk F e.1):=by rfl
      rw [e8]
      refine zpa 0 rfl (fun hLs=> ?_)
      refine za<|e_mv rfl<|e_p (zsc (lo:=1) (hi:=(yk F e.1).length) Try.underlying22 sz3 rfl (.s rfl) .n (.inr ⟨_,rfl⟩) (.inl ⟨rfl,rfl⟩) om om)<|r_more (zXc 0 rfl 1 ((yk F e.1).length) om om) (fun _ _=> ?_)
      refine e_p (zR Try.underlying22 rfl)<|e_mv rfl<|zi<|zc<|zq ?_
      have e9:(yk F e.1).take ((yk F e.1).length)=(yk F e.1):=by exact List.take_length
      rw [e9]
      refine zY (X:=Nat×(List (Int×Int))) (fun x:Nat×(List (Int×Int))=>x.1≤(yk F e.1).length - 1∧Ms.UC (Ms.Lof F (vis.map Prod.fst)++(((yk F e.1).drop 1).take x.1).map (fun jj=>((yk F e.1).getD 0 0,jj))) x.2) (fun x=>[(32,.int .i64 ((x.1:Nat):Int)),(31,.int .i64 ((((yk F e.1).length) - 1:Nat):Int)),(30,.slice (newP p5 c6 1 1) (((yk F e.1).length) - 1) (c6 - 1)),(7,.slice p5 ((yk F e.1).length) c6),(24,.pointer (some ⟨it3,0,none⟩)),(5,.map (some b2)),(3,.int .i64 0),(2,.slice none 0 0),(1,.pointer (some ⟨b1,0,none⟩))]) (fun x=>[itA bZ it3 (fun z:Int×Int=> .agg #[.int .i64 z.1,.int .i64 z.2]) (fun z:Option Addr×Nat×Nat=> .slice z.1 z.2.1 z.2.2) (fun z=>InK .i64 z.1∧InK .i64 z.2) rawZ (vis++[e]),mapA b2 (fun z:Int=> .int .i64 z) (fun z:Int=> .int .i64 z) (InK .i64) (x.2),boxA b1 32 [.slice pv nv cv,.slice pf nf cf]]) (fun x=>[slF (rI .i64) (newP p5 c6 1 1) (c6 - 1) ((yk F e.1).drop 1),slF (rI .i64) p5 c6 (yk F e.1),rawF (rI .i64) rawZ (ye F),slF (rI3 .i64) pv cv V,slF (rI3 .i64) pf cf F]) (fun x:Nat×(List (Int×Int))=>(yk F e.1).length - 1 - x.1) (0,uu) (show 0≤(yk F e.1).length - 1∧Ms.UC (Ms.Lof F (vis.map Prod.fst)++(((yk F e.1).drop 1).take 0).map (fun jj=>((yk F e.1).getD 0 0,jj))) uu from by exact ⟨Nat.zero_le _,by simpa using hB⟩) ((.e rfl cgs (.of rfl)):SubM _ _) (ho:=((.of [0,0,0] rfl):PickO _ _ _)) ((.of [0,1,2,3,4] rfl):SelR _ _ _) ?_
      rintro ⟨j,uu2⟩ hJ
      replace hJ:j≤(yk F e.1).length - 1∧Ms.UC (Ms.Lof F (vis.map Prod.fst)++(((yk F e.1).drop 1).take j).map (fun jj=>((yk F e.1).getD 0 0,jj))) uu2:=hJ
      try dsimp only
      obtain ⟨hj,hU⟩:=hJ
      refine zf<|za<|e_p (zD rfl rfl)<|zi<|zc<|zf<|zG rfl (fun h10=> ?_) (fun h10=> ?_)
      ·
        have hxj:=Ms.sl_rng (F:=F) (k:=e.1) (List.mem_of_mem_drop (Ms.getD_mem (l:=(yk F e.1).drop 1) (i:=j) 0 (by rw [List.length_drop];omega)))
        refine zw<|zc<|zf<|zq<|zf<|za<|zM (x0:=(((yk F e.1).drop 1).getD j 0)) 0 j rfl Try.underlying22 sz3 rfl rfl rfl (by first|rfl|assumption|(simp;done)|omega) rfl rfl (gD (d:=0) om) (fun b11 o12 hok13=> ?_)
        replace hok13:=ze.1 hok13
        refine e_ru (zp (j:=0) 0 ty3 rfl rfl rfl rfl)<|e_p (zd rfl)<|zi<|zc<|za<|e_mv rfl<|e_mv rfl<|zM (x0:=((yk F e.1).getD 0 0)) 2 0 rfl Try.underlying22 sz3 rfl rfl rfl (by first|rfl|assumption|(simp;done)|omega) rfl rfl (gD (d:=0) om) (fun b14 o15 hok16=> ?_)
        replace hok16:=ze.1 hok16
        refine e_ru (zp (j:=0) 0 ty3 rfl rfl rfl rfl)<|e_mv rfl<|zWb (zK (i:=1) rfl)<|zfb (A:=[mapA b2 (fun z:Int=> .int .i64 z) (fun z:Int=> .int .i64 z) (InK .i64) uu2]) (F:=[itA bZ it3 (fun z:Int×Int=> .agg #[.int .i64 z.1,.int .i64 z.2]) (fun z:Option Addr×Nat×Nat=> .slice z.1 z.2.1 z.2.2) (fun z=>InK .i64 z.1∧InK .i64 z.2) rawZ (vis++[e]),boxA b1 32 [.slice pv nv cv,.slice pf nf cf]]) (first:=[]) (cap:=[]) rfl rfl rfl (.c rfl (.c rfl (.c rfl .n))) ce23 (zub (b:=b2) (U:=uu2) (i0:=((yk F e.1).getD 0 0)) (k0:=(((yk F e.1).drop 1).getD j 0)) (hU:=by exact hU.ok) (hi0:=cbb) (hk0:=cbb)) (.n) ?_
        rintro ⟨⟩ -
        dsimp only [aq,nq,cq]
        refine zi<|zB<|zc<|za<|e_p (zv (z:=(((j+1):Nat):Int)) rfl rfl (w64 om))<|e_mv rfl<|zi<|zQ ((j+1),yp uu2 ((yk F e.1).getD 0 0) (((yk F e.1).drop 1).getD j 0)) (show (j+1)≤(yk F e.1).length - 1∧Ms.UC (Ms.Lof F (vis.map Prod.fst)++(((yk F e.1).drop 1).take (j+1)).map (fun jj=>((yk F e.1).getD 0 0,jj))) (yp uu2 ((yk F e.1).getD 0 0) (((yk F e.1).drop 1).getD j 0)) from by exact ⟨by omega,by rw [Ms.star_take (by rw [List.length_drop];omega),←List.append_assoc];exact hU.step hx0.1 hxj.1⟩) om (mR rfl) (ho:=((.of [1,0,0] rfl):PickO _ _ _)) ((.of [2,3,4,5,6] rfl):SelR _ _ _)
      ·
        refine zP<|zj<|zj<|zo<|zB ?_
        have hvs:((vis++[e]).map Prod.fst).Nodup∧∀q∈(vis++[e]).map Prod.fst,q∈rawZ.map Prod.fst:=by
          rw [List.map_append]
          exact ⟨yx hBn hen,fun q hq=>(List.mem_append.1 hq).elim (hBs q) (fun h=>by simp at h;subst h;exact List.mem_map_of_mem hem)⟩
        refine zQ ((vis++[e]),uu2) (show Ms.UC (Ms.Lof F ((vis++[e]).map Prod.fst)) uu2∧((vis++[e]).map Prod.fst).Nodup∧∀q∈(vis++[e]).map Prod.fst,q∈rawZ.map Prod.fst from by refine ⟨?_,hvs.1,hvs.2⟩;rw [List.map_append,List.map_cons,List.map_nil,Ms.Lof_snoc];have h9:=hU;rw [List.take_of_length_le om] at h9;exact h9) (by have h8:=Ms.len_of_sub hvs.1 hvs.2;simp only [List.length_map,List.length_append,List.length_cons,List.length_nil] at *;omega) (mR rfl) (ho:=((.of [0,0,0] rfl):PickO _ _ _)) ((.of [2,3,4] rfl):SelR _ _ _)
    ·
      refine e_p (zy rfl rfl)<|zi<|zc<|zf<|zEa rfl rfl<|zP<|zj<|zj<|zo<|zc<|zf<|za<|e_p (zd rfl)<|zi<|zc<|zf ?_
      have hcls:∀a b,a<F.length→b<F.length→(yd uu (a:Int)=yd uu (b:Int)↔Ms.Cls F F.length a b):=fun a b ha hb=>(hB.conn a b om om).trans (Ms.parts_eq hg.dg (fun k hk=>by rw [← hraw.keys] at hk;obtain ⟨q,hq,rfl⟩:=List.mem_map.1 hk;exact List.mem_map_of_mem (hperm.mem_iff.2 hq)) ha hb)
      refine za<|zwa rfl rfl (zla (κ:=Int) (ν:=Int) (fun z:Int=> .int .i64 z) (fun z:Int=> .int .i64 z) (InK .i64)) (fun b17 _=> ?_)
      refine e_p (zd rfl)<|zi<|zc<|zf<|zf<|zjb 3 (rI .i64)<|za<|e_p (zg Try.underlying32 rfl sz30 rfl rfl)<|e_ru (zb 4 ty30 rfl rfl rfl)<|e_p (zR Try.underlying30 rfl)<|e_mv rfl<|zi<|zc<|zq<|zY (X:=Nat×(Option Addr)×Nat×(List Int)×(List (Int×Int))) (fun x:Nat×(Option Addr)×Nat×(List Int)×(List (Int×Int))=>x.1≤nf∧Ms.NumI (fun jj:Nat=>yd uu (jj:Int)) x.1 x.2.2.2.2∧x.2.2.2.1=Ms.numsL (Ms.Er (fun jj:Nat=>yd uu (jj:Int))) x.1) (fun x=>[(10,.slice (x.2.1) (x.2.2.2.1.length) (x.2.2.1)),(47,.int .i64 ((x.1:Nat):Int)),(46,.int .i64 ((nf:Nat):Int)),(11,.map (some b17)),(5,.map (some b2)),(3,.int .i64 0),(2,.slice none 0 0)]) (fun x=>[rowA 3 (rI .i64) (x.2.1) (x.2.2.1) (x.2.2.2.1),mapA b17 (fun z:Int=> .int .i64 z) (fun z:Int=> .int .i64 z) (InK .i64) (x.2.2.2.2),itA bZ it3 (fun z:Int×Int=> .agg #[.int .i64 z.1,.int .i64 z.2]) (fun z:Option Addr×Nat×Nat=> .slice z.1 z.2.1 z.2.2) (fun z=>InK .i64 z.1∧InK .i64 z.2) rawZ vis,mapA b2 (fun z:Int=> .int .i64 z) (fun z:Int=> .int .i64 z) (InK .i64) uu,boxA b1 32 [.slice pv nv cv,.slice pf nf cf]]) (fun x=>[rawF (rI .i64) rawZ (ye F),slF (rI3 .i64) pv cv V,slF (rI3 .i64) pf cf F]) (fun x:Nat×(Option Addr)×Nat×(List Int)×(List (Int×Int))=>nf - x.1) (0,none,0,([]:List Int),([]:List (Int×Int))) (show 0≤nf∧Ms.NumI (fun jj:Nat=>yd uu (jj:Int)) 0 ([]:List (Int×Int))∧([]:List Int)=Ms.numsL (Ms.Er (fun jj:Nat=>yd uu (jj:Int))) 0 from by exact ⟨Nat.zero_le _,Ms.NumI.start _,rfl⟩) ((.e rfl cgs (.e rfl cgs (.of rfl))):SubM _ _) (ho:=((.e (i:=0) rfl cgs (.e (i:=0) rfl cgs (.of [0,0,0] rfl))):PickO _ _ _)) ((.of [0,1,2] rfl):SelR _ _ _) ?_
      rintro ⟨i,p,c,A,nm⟩ hI
      replace hI:i≤nf∧Ms.NumI (fun jj:Nat=>yd uu (jj:Int)) i nm∧A=Ms.numsL (Ms.Er (fun jj:Nat=>yd uu (jj:Int))) i:=hI
      try dsimp only
      obtain ⟨hi,hN,hA⟩:=hI
      have hNl:=hN.len
      have hNc:=Ms.cntF_le (Ms.Er (fun jj:Nat=>yd uu (jj:Int))) i
      have hAl:A.length=i:=by rw [hA];exact Ms.numsL_len _ _
      have hrg:=hN.rng (yd uu ((i:Nat):Int))
      refine zf<|za<|e_p (zD rfl rfl)<|zi<|zc<|zf<|zG rfl (fun h18=> ?_) (fun h18=> ?_)
      ·
        have hfr:=Ms.find_rng hB.ok ((i:Nat):Int) om
        refine zw<|zc<|zf<|zq<|zf<|za<|e_mv rfl<|e_p (zd rfl)<|zi<|zc<|zf<|za<|e_mv rfl<|e_mv rfl<|zWb (zK (i:=3) rfl)<|zfb (A:=[mapA b2 (fun z:Int=> .int .i64 z) (fun z:Int=> .int .i64 z) (InK .i64) uu]) (F:=[rowA 3 (rI .i64) p c A,mapA b17 (fun z:Int=> .int .i64 z) (fun z:Int=> .int .i64 z) (InK .i64) nm,itA bZ it3 (fun z:Int×Int=> .agg #[.int .i64 z.1,.int .i64 z.2]) (fun z:Option Addr×Nat×Nat=> .slice z.1 z.2.1 z.2.2) (fun z=>InK .i64 z.1∧InK .i64 z.2) rawZ vis,boxA b1 32 [.slice pv nv cv,.slice pf nf cf]]) (first:=[]) (cap:=[]) rfl rfl rfl (.c rfl (.c rfl .n)) ce24 (zmb (b:=b2) (U:=uu) (i0:=((i:Nat):Int)) (hU:=by exact hB.ok) (hi0:=cbb)) (.n) ?_
        rintro ⟨⟩ -
        dsimp only [aq,nq,cq]
        refine e_p (zd rfl)<|zi<|zc<|zf<|za<|e_mv rfl<|e_mv rfl<|e_ru (zKa (z:=0) (a0:=(yd uu ((i:Nat):Int))) (v:= .int .i64 ((mget nm (yd uu ((i:Nat):Int))).getD 0)) 2 rfl ky3 Try.underlying65 zr3 rfl rfl (ze.2 om) rfl)<|e_mv rfl<|e_p (zy rfl rfl)<|e_p (zy rfl rfl)<|e_p (zd rfl)<|e_p (zd rfl)<|zi<|zc<|zf<|zf<|za<|e_mv rfl<|e_p (zFb rfl)<|zi<|zc<|zAa rfl (fun hnn=> ?_) (fun hnn=> ?_)
        ·
          refine zf<|za<|e_mv rfl<|e_ru (zkb (encK:=(fun z:Int=> .int .i64 z)) (encV:=(fun z:Int=> .int .i64 z)) (ok:=(InK .i64)) (m:=nm) 2 rfl Try.underlying65 rfl)<|e_p (zd rfl)<|zi<|zc<|za<|e_mv rfl<|e_mv rfl<|e_mv rfl<|zna 2 rfl rfl rfl (zT (a0:=(yd uu ((i:Nat):Int))) (v:=(((nm).length:Nat):Int)) ky3 Try.underlying65 rfl rfl rfl (ze.2 om)) (fun _=>(.s (.s .z))) (fun _ _=> ?_)
          refine zi<|zc<|za<|e_mv rfl<|e_mv rfl<|zwa rfl rfl (zt (enc:=fun z:Int=>[.int .i64 z]) (ok:=InK .i64) (h1:=fun _=>rfl) (h2:=fun _=>rfl) (k:=1) Try.underlying22 inf3 rfl dd dd dd (.c (x:=(((nm).length:Nat):Int)) rfl rfl (fun _ _=>by exact ze.2 om) .n)) (fun b19 _=> ?_)
          refine zua 0 rfl .z<|zna 2 rfl rfl rfl (zea 0 rfl Try.underlying22 inf3 dd rfl rfl (by first|rfl|assumption|(simp;done)|omega) rfl (by first|rfl|assumption|(simp;done)|omega) om om) (fun _=>(.s (.s .z))) ?_
          rintro ⟨p20,c21⟩ -
          dsimp only [aq,nq,cq]
          refine e_p (zd rfl)<|zi<|zB<|zc<|za<|e_p (zv (z:=(((i+1):Nat):Int)) rfl rfl (w64 om))<|e_mv rfl<|zi<|zQ ((i+1),p20,c21,(A++([(((nm).length:Nat):Int)])),mput nm (yd uu ((i:Nat):Int)) (((nm).length:Nat):Int)) (show (i+1)≤nf∧Ms.NumI (fun jj:Nat=>yd uu (jj:Int)) (i+1) (mput nm (yd uu ((i:Nat):Int)) (((nm).length:Nat):Int))∧(A++([(((nm).length:Nat):Int)]))=Ms.numsL (Ms.Er (fun jj:Nat=>yd uu (jj:Int))) (i+1) from by have hp:=hN.put (by simpa using hnn);exact ⟨by omega,hp.1,by rw [hp.2,hA]⟩) (by show nf - (i+1)<nf - i;omega) ((.e rfl (by simp) (.of rfl)):SubM _ _) (ho:=((.of [2,2,2,1,1] rfl):PickO _ _ _)) ((.of [1,2,3] rfl):SelR _ _ _)
        ·
          refine zw<|zc<|za<|e_mv rfl<|e_mv rfl<|zwa rfl rfl (zt (enc:=fun z:Int=>[.int .i64 z]) (ok:=InK .i64) (h1:=fun _=>rfl) (h2:=fun _=>rfl) (k:=1) Try.underlying22 inf3 rfl dd dd dd (.c (x:=((mget nm (yd uu ((i:Nat):Int))).getD 0)) rfl rfl (fun _ _=>by exact ze.2 om) .n)) (fun b22 _=> ?_)
          refine zua 0 rfl .z<|zna 2 rfl rfl rfl (zea 0 rfl Try.underlying22 inf3 dd rfl rfl (by first|rfl|assumption|(simp;done)|omega) rfl (by first|rfl|assumption|(simp;done)|omega) om om) (fun _=>(.s (.s .z))) ?_
          rintro ⟨p23,c24⟩ -
          dsimp only [aq,nq,cq]
          refine e_p (zd rfl)<|zi<|zB<|zc<|za<|e_p (zv (z:=(((i+1):Nat):Int)) rfl rfl (w64 om))<|e_mv rfl<|zi<|zQ ((i+1),p23,c24,(A++([((mget nm (yd uu ((i:Nat):Int))).getD 0)])),nm) (show (i+1)≤nf∧Ms.NumI (fun jj:Nat=>yd uu (jj:Int)) (i+1) nm∧(A++([((mget nm (yd uu ((i:Nat):Int))).getD 0)]))=Ms.numsL (Ms.Er (fun jj:Nat=>yd uu (jj:Int))) (i+1) from by have hp:=hN.keep (by simpa using hnn);exact ⟨by omega,hp.1,by rw [hp.2,hA]⟩) (by show nf - (i+1)<nf - i;omega) ((.e rfl (by simp) (.of rfl)):SubM _ _) (ho:=((.of [2,2,2,1,1] rfl):PickO _ _ _)) ((.of [1,2,3] rfl):SelR _ _ _)
      ·
        refine zP<|zj<|zj<|zo<|zc<|zf<|za<|e_mv rfl<|e_p (zd rfl)<|e_p (zd rfl)<|zi<|zc<|zU ?_
        have hz:(if yj V F=0 then yn F else [])=A:=by rw [if_pos hc0,hA,show i=nf by omega,←hnf];exact (Ms.parts_of hg.dg hcls).symm
        refine zVa 0 rfl .z ?_
        exact zLa Try.results11 (p,c) trivial (zx rfl) (zx rfl) (by rw [hz,hc0]) (ho:=oN) ((.e (j:=0) rfl (by rw [hz]) .n):SelR _ _ _)
end Go.Proofs.Ytpdbimfnhglhpaa.Sp
namespace Go.Proofs.Ytpdbimfnhglhpaa.Sp
open Go
set_option linter.unusedVariables false
set_option maxRecDepth 100000
set_option maxHeartbeats 8000000
theorem zFc {pv:Option Addr} {nv:Nat} {cv:Nat} {V:List (Int×Int×Int)} {pf:Option Addr} {nf:Nat} {cf:Nat} {F:List (Int×Int×Int)} (hnv:V.length=nv) (hnf:F.length=nf):Con Try.prog 12 [.agg #[.slice pv nv cv,.slice pf nf cf]] [] [slF (rI3 .i64) pv cv V,slF (rI3 .i64) pf cf F] (Y:=Unit) (fun y=>True) (fun y=> .tuple #[.agg #[.int .i64 ((Ms.vecR V F).1),.int .i64 ((Ms.vecR V F).2.1),.int .i64 ((Ms.vecR V F).2.2)],.int .i64 (yj V F)]) (fun y=>[]) (fun y=>[]):=by
 refine zC Try.func12 rfl rfl rfl (fun c=> ?_)
 show RunC _ _ _ _ _ [(0,.agg #[.slice pv nv cv,.slice pf nf cf])] [] [slF (rI3 .i64) pv cv V,slF (rI3 .i64) pf cf F]
 refine zpa 0 rfl (fun hL0=> ?_)
 refine zpa 1 rfl (fun hL1=> ?_)
 refine zf<|za<|zZ rfl rfl (zka rfl rfl) (fun b1=> ?_)
 refine zZ rfl rfl (zF zr35 rfl) (fun b2=> ?_)
 refine e_p (zd rfl)<|zi<|zc<|zf<|zf<|za<|e_ru (zm 1 ty32 rfl rfl (.t2 .nil))<|zia rfl rfl (.c rfl .n) ce13 (zbb (pv:=pv) (nv:=nv) (cv:=cv) (V:=V) (pf:=pf) (nf:=nf) (cf:=cf) (F:=F) (hnv:=ass) (hnf:=ass)) (.c (j:=0) rfl (.c (j:=1) rfl .n))<|e_p (zd rfl)<|zi<|zc<|zf<|za<|e_mv rfl<|e_p (zOa rfl rfl)<|zi<|zc<|zG rfl (fun hcode=> ?_) (fun hcode=> ?_)
 ·
  refine zf<|za<|e_p (zA zr35 rfl Try.underlying35 sz3 .n .n)<|e_mv rfl<|zE 0 rfl rfl rfl rfl rfl sz35 rfl (.t2 (.take .nil)) .z<|e_p (zd rfl)<|zi<|zc<|zU<|zl ?_
  have hz:Ms.vecR V F=(0,0,0):=by unfold Ms.vecR;rw [if_neg hcode]
  exact zLa Try.results12 () trivial (zPa 0 ty35 rfl rfl (.t2 (.take .nil))) (zx rfl) (by rw [hz]) (ho:=oN) sN
 ·
  have hc0:=Decidable.not_not.1 hcode
  have hf0:=yz hc0
  have hg:=yq.1 hf0
  have hnv5:nv≤512:=by have:=hg.nv;omega
  have hnf5:nf≤1024:=by have:=hg.nf;omega
  refine zw<|zc<|zf<|za<|zZ rfl rfl (zF zr35 rfl) (fun b3=> ?_)
  refine zi<|zc<|zf<|zf<|za<|e_p (zg Try.underlying32 rfl sz30 rfl rfl)<|e_ru (zb 2 ty30 rfl rfl rfl)<|e_p (zR Try.underlying30 rfl)<|e_mv rfl<|zi<|zc<|zq<|zY (X:=Nat×(Int×Int×Int)) (fun x:Nat×(Int×Int×Int)=>x.1≤nf∧x.2=Ms.vecS V (F.take x.1)∧(-(8796093022208*(x.1:Int))≤x.2.1∧x.2.1≤8796093022208*(x.1:Int))∧(-(8796093022208*(x.1:Int))≤x.2.2.1∧x.2.2.1≤8796093022208*(x.1:Int))∧(-(8796093022208*(x.1:Int))≤x.2.2.2∧x.2.2.2≤8796093022208*(x.1:Int))) (fun x=>[(25,.int .i64 ((x.1:Nat):Int)),(24,.int .i64 ((nf:Nat):Int)),(23,.slice pf nf cf),(5,.pointer (some ⟨b3,0,none⟩)),(3,.int .i64 0),(2,.pointer (some ⟨b2,0,none⟩)),(1,.pointer (some ⟨b1,0,none⟩))]) (fun x=>[boxA b3 35 [.int .i64 ((x.2).1),.int .i64 ((x.2).2.1),.int .i64 ((x.2).2.2)],boxA b2 35 [.int .i64 0,.int .i64 0,.int .i64 0],boxA b1 32 [.slice pv nv cv,.slice pf nf cf]]) (fun x=>[slF (rI3 .i64) pv cv V,slF (rI3 .i64) pf cf F]) (fun x:Nat×(Int×Int×Int)=>nf - x.1) (0,((0:Int),(0:Int),(0:Int))) (show 0≤nf∧((0:Int),(0:Int),(0:Int))=Ms.vecS V (F.take 0)∧(-(8796093022208*(0:Int))≤((0:Int),(0:Int),(0:Int)).1∧((0:Int),(0:Int),(0:Int)).1≤8796093022208*(0:Int))∧(-(8796093022208*(0:Int))≤((0:Int),(0:Int),(0:Int)).2.1∧((0:Int),(0:Int),(0:Int)).2.1≤8796093022208*(0:Int))∧(-(8796093022208*(0:Int))≤((0:Int),(0:Int),(0:Int)).2.2∧((0:Int),(0:Int),(0:Int)).2.2≤8796093022208*(0:Int)) from by exact ⟨Nat.zero_le _,rfl,by decide,by decide,by decide⟩) ((.e rfl cgs (.of rfl)):SubM _ _) (ho:=((.e (i:=0) rfl cgs (.of [0,0] rfl)):PickO _ _ _)) ((.of [0,1] rfl):SelR _ _ _) ?_
  rintro ⟨i,s⟩ hI
  replace hI:i≤nf∧s=Ms.vecS V (F.take i)∧(-(8796093022208*(i:Int))≤s.1∧s.1≤8796093022208*(i:Int))∧(-(8796093022208*(i:Int))≤s.2.1∧s.2.1≤8796093022208*(i:Int))∧(-(8796093022208*(i:Int))≤s.2.2∧s.2.2≤8796093022208*(i:Int)):=hI
  try dsimp only
  obtain ⟨hi,hs,hb1,hb2,hb3⟩:=hI
  refine zf<|za<|e_p (zD rfl rfl)<|zi<|zc<|zf<|zG rfl (fun h4=> ?_) (fun h4=> ?_)
  ·
   have hat:=hg.at (show i<F.length by omega)
   have hv0:=hg.vat (i:=((F.getD i (0,0,0)).1).toNat) om
   have hv1:=hg.vat (i:=((F.getD i (0,0,0)).2.1).toNat) om
   have hv2:=hg.vat (i:=((F.getD i (0,0,0)).2.2).toNat) om
   refine zw<|zc<|zf<|zq<|zf<|za<|zM (x0:=(F.getD i (0,0,0))) 1 i rfl Try.underlying30 sz35 rfl rfl rfl cbs rfl rfl (gD (d:=(0,0,0)) om) (fun b5 o6 hok7=> ?_)
   obtain ⟨hok7x,hok7y,hok7z⟩:=hok7
   replace hok7x:=ze.1 hok7x
   replace hok7y:=ze.1 hok7y
   replace hok7z:=ze.1 hok7z
   refine e_ru (zJ (j:=0) 0 ty35 rfl rfl rfl (.t2 (.take .nil)))<|zZ rfl rfl (zF zr35 rfl) (fun b8=> ?_)
   refine zE 0 rfl rfl rfl rfl rfl sz35 rfl (.t2 (.take .nil)) .z<|zi<|zc<|zf<|zsa (OW:=[]) (O:=[boxA b8 35 [.int .i64 ((F.getD i (0,0,0)).1),.int .i64 ((F.getD i (0,0,0)).2.1),.int .i64 ((F.getD i (0,0,0)).2.2)],boxA b3 35 [.int .i64 ((s).1),.int .i64 ((s).2.1),.int .i64 ((s).2.2)],boxA b2 35 [.int .i64 0,.int .i64 0,.int .i64 0],boxA b1 32 [.slice pv nv cv,.slice pf nf cf]]) 21 mixed (.then (.block (.then (.then (.block (.then .ret)))))) kr<|e_pv 0 rfl rfl (zg Try.underlying32 rfl sz29 rfl rfl)<|e_u 1 rfl rfl (zb 3 ty29 rfl rfl rfl)<|e_pv 2 rfl rfl (zk (i:=0) Try.underlying35 sz3 rfl rfl dd rfl)<|e_u 3 rfl rfl (zb 0 ty3 rfl rfl rfl)<|zza (x0:=(V.getD (((F.getD i (0,0,0)).1).toNat) (0,0,0))) 4 rfl rfl kr kr 1 (((F.getD i (0,0,0)).1).toNat) rfl Try.underlying29 sz34 rfl rfl rfl cbs rfl om (gD (d:=(0,0,0)) om) (fun b9 o10 hok11=> ?_)
   obtain ⟨hok11x,hok11y,hok11z⟩:=hok11
   replace hok11x:=ze.1 hok11x
   replace hok11y:=ze.1 hok11y
   replace hok11z:=ze.1 hok11z
   refine e_u 5 rfl rfl (zJ (j:=0) 0 ty34 rfl rfl rfl (.t2 (.take .nil)))<|e_pv 6 rfl rfl (zg Try.underlying32 rfl sz29 rfl rfl)<|e_u 7 rfl rfl (zb 3 ty29 rfl rfl rfl)<|e_pv 8 rfl rfl (zk (i:=1) Try.underlying35 sz3 rfl rfl dd rfl)<|e_u 9 rfl rfl (zb 0 ty3 rfl rfl rfl)<|zza (x0:=(V.getD (((F.getD i (0,0,0)).2.1).toNat) (0,0,0))) 10 rfl rfl kr kr 2 (((F.getD i (0,0,0)).2.1).toNat) rfl Try.underlying29 sz34 rfl rfl rfl cbs rfl om (gD (d:=(0,0,0)) om) (fun b12 o13 hok14=> ?_)
   obtain ⟨hok14x,hok14y,hok14z⟩:=hok14
   replace hok14x:=ze.1 hok14x
   replace hok14y:=ze.1 hok14y
   replace hok14z:=ze.1 hok14z
   refine e_u 11 rfl rfl (zJ (j:=0) 0 ty34 rfl rfl rfl (.t2 (.take .nil)))<|e_pv 12 rfl rfl (zg Try.underlying32 rfl sz29 rfl rfl)<|e_u 13 rfl rfl (zb 3 ty29 rfl rfl rfl)<|e_pv 14 rfl rfl (zk (i:=2) Try.underlying35 sz3 rfl rfl dd rfl)<|e_u 15 rfl rfl (zb 0 ty3 rfl rfl rfl)<|zza (x0:=(V.getD (((F.getD i (0,0,0)).2.2).toNat) (0,0,0))) 16 rfl rfl kr kr 3 (((F.getD i (0,0,0)).2.2).toNat) rfl Try.underlying29 sz34 rfl rfl rfl cbs rfl om (gD (d:=(0,0,0)) om) (fun b15 o16 hok17=> ?_)
   obtain ⟨hok17x,hok17y,hok17z⟩:=hok17
   replace hok17x:=ze.1 hok17x
   replace hok17y:=ze.1 hok17y
   replace hok17z:=ze.1 hok17z
   refine e_u 17 rfl rfl (zJ (j:=0) 0 ty34 rfl rfl rfl (.t2 (.take .nil)))<|zIb (m':=[(46,.agg #[.int .i64 ((V.getD (((F.getD i (0,0,0)).2.2).toNat) (0,0,0)).1),.int .i64 ((V.getD (((F.getD i (0,0,0)).2.2).toNat) (0,0,0)).2.1),.int .i64 ((V.getD (((F.getD i (0,0,0)).2.2).toNat) (0,0,0)).2.2)]),(40,.agg #[.int .i64 ((V.getD (((F.getD i (0,0,0)).2.1).toNat) (0,0,0)).1),.int .i64 ((V.getD (((F.getD i (0,0,0)).2.1).toNat) (0,0,0)).2.1),.int .i64 ((V.getD (((F.getD i (0,0,0)).2.1).toNat) (0,0,0)).2.2)]),(34,.agg #[.int .i64 ((V.getD (((F.getD i (0,0,0)).1).toNat) (0,0,0)).1),.int .i64 ((V.getD (((F.getD i (0,0,0)).1).toNat) (0,0,0)).2.1),.int .i64 ((V.getD (((F.getD i (0,0,0)).1).toNat) (0,0,0)).2.2)]),(25,.int .i64 ((i:Nat):Int)),(24,.int .i64 ((nf:Nat):Int)),(23,.slice pf nf cf),(5,.pointer (some ⟨b3,0,none⟩)),(3,.int .i64 0),(2,.pointer (some ⟨b2,0,none⟩)),(1,.pointer (some ⟨b1,0,none⟩))]) (R':=[slF (rI3 .i64) pv cv V,slF (rI3 .i64) pf cf F]) (mR rfl) (List.Perm.refl _) (List.Perm.refl _) ((.of [4,5] rfl):SelR _ _ _) ?_
   obtain ⟨qax,hqax⟩:∃z,z=(V.getD (((F.getD i (0,0,0)).1).toNat) (0,0,0)).1:=⟨_,rfl⟩
   rw [← hqax]
   obtain ⟨qay,hqay⟩:∃z,z=(V.getD (((F.getD i (0,0,0)).1).toNat) (0,0,0)).2.1:=⟨_,rfl⟩
   rw [← hqay]
   obtain ⟨qaz,hqaz⟩:∃z,z=(V.getD (((F.getD i (0,0,0)).1).toNat) (0,0,0)).2.2:=⟨_,rfl⟩
   rw [← hqaz]
   obtain ⟨qbx,hqbx⟩:∃z,z=(V.getD (((F.getD i (0,0,0)).2.1).toNat) (0,0,0)).1:=⟨_,rfl⟩
   rw [← hqbx]
   obtain ⟨qby,hqby⟩:∃z,z=(V.getD (((F.getD i (0,0,0)).2.1).toNat) (0,0,0)).2.1:=⟨_,rfl⟩
   rw [← hqby]
   obtain ⟨qbz,hqbz⟩:∃z,z=(V.getD (((F.getD i (0,0,0)).2.1).toNat) (0,0,0)).2.2:=⟨_,rfl⟩
   rw [← hqbz]
   obtain ⟨qcx,hqcx⟩:∃z,z=(V.getD (((F.getD i (0,0,0)).2.2).toNat) (0,0,0)).1:=⟨_,rfl⟩
   rw [← hqcx]
   obtain ⟨qcy,hqcy⟩:∃z,z=(V.getD (((F.getD i (0,0,0)).2.2).toNat) (0,0,0)).2.1:=⟨_,rfl⟩
   rw [← hqcy]
   obtain ⟨qcz,hqcz⟩:∃z,z=(V.getD (((F.getD i (0,0,0)).2.2).toNat) (0,0,0)).2.2:=⟨_,rfl⟩
   rw [← hqcz]
   refine zaa (X:=Nat×Nat×Nat) (k':=0) (L':=(lb 24 16777215)) (fun (u18_1,u19_1,u20_1)=>([(10,.pointer (some ⟨u20_1,0,none⟩)),(9,.pointer (some ⟨u19_1,0,none⟩)),(8,.pointer (some ⟨u18_1,0,none⟩)),(25,.int .i64 ((i:Nat):Int)),(24,.int .i64 ((nf:Nat):Int)),(23,.slice pf nf cf),(5,.pointer (some ⟨b3,0,none⟩)),(3,.int .i64 0),(2,.pointer (some ⟨b2,0,none⟩)),(1,.pointer (some ⟨b1,0,none⟩))],[boxA u20_1 34 [.int .i64 qcx,.int .i64 qcy,.int .i64 qcz],boxA u19_1 34 [.int .i64 qbx,.int .i64 qby,.int .i64 qbz],boxA u18_1 34 [.int .i64 qax,.int .i64 qay,.int .i64 qaz]],[boxA b8 35 [.int .i64 ((F.getD i (0,0,0)).1),.int .i64 ((F.getD i (0,0,0)).2.1),.int .i64 ((F.getD i (0,0,0)).2.2)],boxA b3 35 [.int .i64 ((s).1),.int .i64 ((s).2.1),.int .i64 ((s).2.2)],boxA b2 35 [.int .i64 0,.int .i64 0,.int .i64 0],boxA b1 32 [.slice pv nv cv,.slice pf nf cf]],[slF (rI3 .i64) pv cv V,slF (rI3 .i64) pf cf F])) ?_ (fun hD0=> ?_)
   ·
    rintro ⟨u18_1,u19_1,u20_1⟩
    dsimp only
    refine zra kr<|zc<|zf<|zsa (OW:=[]) (O:=[boxA u20_1 34 [.int .i64 qcx,.int .i64 qcy,.int .i64 qcz],boxA u19_1 34 [.int .i64 qbx,.int .i64 qby,.int .i64 qbz],boxA u18_1 34 [.int .i64 qax,.int .i64 qay,.int .i64 qaz],boxA b8 35 [.int .i64 ((F.getD i (0,0,0)).1),.int .i64 ((F.getD i (0,0,0)).2.1),.int .i64 ((F.getD i (0,0,0)).2.2)],boxA b3 35 [.int .i64 ((s).1),.int .i64 ((s).2.1),.int .i64 ((s).2.2)],boxA b2 35 [.int .i64 0,.int .i64 0,.int .i64 0],boxA b1 32 [.slice pv nv cv,.slice pf nf cf]]) 34 mixed (.then (.block (.then (.then (.block (.then .ret)))))) kr<|e_pv 0 rfl rfl (zg Try.underlying34 rfl sz3 rfl rfl)<|e_u 1 rfl rfl (zb 1 ty3 rfl rfl rfl)<|e_pv 2 rfl rfl (zg Try.underlying34 rfl sz3 rfl rfl)<|e_u 3 rfl rfl (zb 2 ty3 rfl rfl rfl)<|e_pv 4 rfl rfl (zxa (z:=(qbx - qax)) rfl rfl (w64 om))<|e_pv 5 rfl rfl (zg Try.underlying34 rfl sz3 rfl rfl)<|e_u 6 rfl rfl (zb 1 ty3 rfl rfl rfl)<|e_pv 7 rfl rfl (zg Try.underlying34 rfl sz3 rfl rfl)<|e_u 8 rfl rfl (zb 2 ty3 rfl rfl rfl)<|e_pv 9 rfl rfl (zxa (z:=(qby - qay)) rfl rfl (w64 om))<|e_pv 10 rfl rfl (zg Try.underlying34 rfl sz3 rfl rfl)<|e_u 11 rfl rfl (zb 1 ty3 rfl rfl rfl)<|e_pv 12 rfl rfl (zg Try.underlying34 rfl sz3 rfl rfl)<|e_u 13 rfl rfl (zb 2 ty3 rfl rfl rfl)<|e_pv 14 rfl rfl (zxa (z:=(qbz - qaz)) rfl rfl (w64 om))<|e_pv 15 rfl rfl (zA zr35 rfl Try.underlying35 sz3 (.c rfl (.c rfl (.c rfl .n))) (.c rfl rfl rfl (.take .nil) (.c rfl rfl rfl (.skip (.take .nil)) (.c rfl rfl rfl (.s2 (.take .nil)) .n))))<|e_pv 16 rfl rfl (zg Try.underlying34 rfl sz3 rfl rfl)<|e_u 17 rfl rfl (zb 0 ty3 rfl rfl rfl)<|e_pv 18 rfl rfl (zg Try.underlying34 rfl sz3 rfl rfl)<|e_u 19 rfl rfl (zb 2 ty3 rfl rfl rfl)<|e_pv 20 rfl rfl (zxa (z:=(qcx - qax)) rfl rfl (w64 om))<|e_pv 21 rfl rfl (zg Try.underlying34 rfl sz3 rfl rfl)<|e_u 22 rfl rfl (zb 0 ty3 rfl rfl rfl)<|e_pv 23 rfl rfl (zg Try.underlying34 rfl sz3 rfl rfl)<|e_u 24 rfl rfl (zb 2 ty3 rfl rfl rfl)<|e_pv 25 rfl rfl (zxa (z:=(qcy - qay)) rfl rfl (w64 om))<|e_pv 26 rfl rfl (zg Try.underlying34 rfl sz3 rfl rfl)<|e_u 27 rfl rfl (zb 0 ty3 rfl rfl rfl)<|e_pv 28 rfl rfl (zg Try.underlying34 rfl sz3 rfl rfl)<|e_u 29 rfl rfl (zb 2 ty3 rfl rfl rfl)<|e_pv 30 rfl rfl (zxa (z:=(qcz - qaz)) rfl rfl (w64 om))<|e_pv 31 rfl rfl (zA zr35 rfl Try.underlying35 sz3 (.c rfl (.c rfl (.c rfl .n))) (.c rfl rfl rfl (.take .nil) (.c rfl rfl rfl (.skip (.take .nil)) (.c rfl rfl rfl (.s2 (.take .nil)) .n))))<|zIb (m':=[(78,.agg #[.int .i64 (qcx - qax),.int .i64 (qcy - qay),.int .i64 (qcz - qaz)]),(62,.agg #[.int .i64 (qbx - qax),.int .i64 (qby - qay),.int .i64 (qbz - qaz)]),(25,.int .i64 ((i:Nat):Int)),(24,.int .i64 ((nf:Nat):Int)),(23,.slice pf nf cf),(5,.pointer (some ⟨b3,0,none⟩)),(3,.int .i64 0),(2,.pointer (some ⟨b2,0,none⟩)),(1,.pointer (some ⟨b1,0,none⟩))]) (R':=[slF (rI3 .i64) pv cv V,slF (rI3 .i64) pf cf F]) (mR rfl) (List.Perm.refl _) (List.Perm.refl _) ((.of [0,1] rfl):SelR _ _ _) ?_
    refine zaa (X:=Nat×Nat) (k':=0) (L':=(lb 36 68719476735)) (fun (u32_1r2,u33_1r2)=>([(12,.pointer (some ⟨u33_1r2,0,none⟩)),(11,.pointer (some ⟨u32_1r2,0,none⟩)),(25,.int .i64 ((i:Nat):Int)),(24,.int .i64 ((nf:Nat):Int)),(23,.slice pf nf cf),(5,.pointer (some ⟨b3,0,none⟩)),(3,.int .i64 0),(2,.pointer (some ⟨b2,0,none⟩)),(1,.pointer (some ⟨b1,0,none⟩))],[boxA u33_1r2 35 [.int .i64 (qcx - qax),.int .i64 (qcy - qay),.int .i64 (qcz - qaz)],boxA u32_1r2 35 [.int .i64 (qbx - qax),.int .i64 (qby - qay),.int .i64 (qbz - qaz)]],[boxA u20_1 34 [.int .i64 qcx,.int .i64 qcy,.int .i64 qcz],boxA u19_1 34 [.int .i64 qbx,.int .i64 qby,.int .i64 qbz],boxA u18_1 34 [.int .i64 qax,.int .i64 qay,.int .i64 qaz],boxA b8 35 [.int .i64 ((F.getD i (0,0,0)).1),.int .i64 ((F.getD i (0,0,0)).2.1),.int .i64 ((F.getD i (0,0,0)).2.2)],boxA b3 35 [.int .i64 ((s).1),.int .i64 ((s).2.1),.int .i64 ((s).2.2)],boxA b2 35 [.int .i64 0,.int .i64 0,.int .i64 0],boxA b1 32 [.slice pv nv cv,.slice pf nf cf]],[slF (rI3 .i64) pv cv V,slF (rI3 .i64) pf cf F])) ?_ (fun hD0=> ?_)
    ·
     rintro ⟨u32_1r2,u33_1r2⟩
     dsimp only
     refine zra kr<|zc<|zf ?_
     have hm01:=yv (a:=(qbx - qax)) (b:=(qcy - qay)) om om
     have hm02:=yv (a:=(qbx - qax)) (b:=(qcz - qaz)) om om
     have hm10:=yv (a:=(qby - qay)) (b:=(qcx - qax)) om om
     have hm12:=yv (a:=(qby - qay)) (b:=(qcz - qaz)) om om
     have hm20:=yv (a:=(qbz - qaz)) (b:=(qcx - qax)) om om
     have hm21:=yv (a:=(qbz - qaz)) (b:=(qcy - qay)) om om
     refine za<|e_mv rfl<|zi<|zc<|zq<|zeb<|zX<|zf<|za<|e_p (zD rfl rfl)<|zi<|zc<|zf<|zW rfl rfl<|zw<|zc<|zf<|zq<|zf<|za<|e_mv rfl<|e_p (zd rfl)<|zi<|zc<|zf<|za<|e_mv rfl<|e_p (zv (z:=1) rfl rfl (w64 dd))<|e_p (zXa (z:=1) rfl rfl dd dd)<|e_mv rfl<|e_p (zv (z:=2) rfl rfl (w64 dd))<|e_p (zXa (z:=2) rfl rfl dd dd)<|e_p (zd rfl)<|e_p (zd rfl)<|zi<|zc<|zWa (.c (i:=6) rfl (.c (i:=0) rfl (.c (i:=0) rfl (.c (i:=0) rfl (.c (i:=0) rfl (.c (i:=0) rfl (.c (i:=0) rfl (.c (i:=0) rfl (.c (i:=0) rfl .n)))))))))<|zsa (OW:=[boxA b3 35 [.int .i64 ((s).1),.int .i64 ((s).2.1),.int .i64 ((s).2.2)]]) (O:=[boxA u33_1r2 35 [.int .i64 (qcx - qax),.int .i64 (qcy - qay),.int .i64 (qcz - qaz)],boxA u32_1r2 35 [.int .i64 (qbx - qax),.int .i64 (qby - qay),.int .i64 (qbz - qaz)],boxA u20_1 34 [.int .i64 qcx,.int .i64 qcy,.int .i64 qcz],boxA u19_1 34 [.int .i64 qbx,.int .i64 qby,.int .i64 qbz],boxA u18_1 34 [.int .i64 qax,.int .i64 qay,.int .i64 qaz],boxA b8 35 [.int .i64 ((F.getD i (0,0,0)).1),.int .i64 ((F.getD i (0,0,0)).2.1),.int .i64 ((F.getD i (0,0,0)).2.2)],boxA b2 35 [.int .i64 0,.int .i64 0,.int .i64 0],boxA b1 32 [.slice pv nv cv,.slice pf nf cf]]) 20 mixed (.block (.then (.then (.block (.block (.then (.then (.block (.then .ret))))))))) kr<|e_dm 0 rfl rfl rfl<|e_pv 1 rfl rfl (zk (i:=0) Try.underlying35 sz3 rfl rfl dd rfl)<|e_uw 2 rfl rfl (zb 0 ty3 rfl rfl rfl)<|e_dm 3 rfl rfl rfl<|e_pv 4 rfl rfl (zk (i:=1) Try.underlying35 sz3 rfl rfl dd rfl)<|e_uw 5 rfl rfl (zb 2 ty3 rfl rfl rfl)<|e_dm 6 rfl rfl rfl<|e_pv 7 rfl rfl (zk (i:=2) Try.underlying35 sz3 rfl rfl dd rfl)<|e_uw 8 rfl rfl (zb 1 ty3 rfl rfl rfl)<|e_pv 9 rfl rfl (zBa (z:=((qby - qay)*(qcz - qaz))) rfl rfl (w64 om))<|e_dm 10 rfl rfl rfl<|e_pv 11 rfl rfl (zk (i:=2) Try.underlying35 sz3 rfl rfl dd rfl)<|e_uw 12 rfl rfl (zb 2 ty3 rfl rfl rfl)<|e_dm 13 rfl rfl rfl<|e_pv 14 rfl rfl (zk (i:=1) Try.underlying35 sz3 rfl rfl dd rfl)<|e_uw 15 rfl rfl (zb 1 ty3 rfl rfl rfl)<|e_pv 16 rfl rfl (zBa (z:=((qbz - qaz)*(qcy - qay))) rfl rfl (w64 om))<|e_pv 17 rfl rfl (zxa (z:=(((qby - qay)*(qcz - qaz)) - ((qbz - qaz)*(qcy - qay)))) rfl rfl (w64 om))<|e_pv 18 rfl rfl (zv (z:=((s).1+(((qby - qay)*(qcz - qaz)) - ((qbz - qaz)*(qcy - qay))))) rfl rfl (w64 om))<|e_pv 19 rfl rfl (zk (i:=0) Try.underlying35 sz3 rfl rfl dd rfl)<|e_one 20 (zma kr rfl rfl rfl rfl rfl sz3 rfl (.take .nil) ?_)
     refine zra kr<|zB<|zc<|za<|e_p (zv (z:=1) rfl rfl (w64 dd))<|e_mv rfl<|zi<|zja<|zX<|zf<|za<|e_p (zD rfl rfl)<|zi<|zc<|zf<|zW rfl rfl<|zw<|zc<|zf<|zq<|zf<|za<|e_mv rfl<|e_p (zd rfl)<|zi<|zc<|zf<|za<|e_mv rfl<|e_p (zv (z:=2) rfl rfl (w64 dd))<|e_p (zXa (z:=2) rfl rfl dd dd)<|e_mv rfl<|e_p (zv (z:=3) rfl rfl (w64 dd))<|e_p (zXa (z:=0) rfl rfl dd dd)<|e_p (zd rfl)<|e_p (zd rfl)<|zi<|zc<|zsa (OW:=[boxA b3 35 [.int .i64 ((s).1+(((qby - qay)*(qcz - qaz)) - ((qbz - qaz)*(qcy - qay)))),.int .i64 ((s).2.1),.int .i64 ((s).2.2)]]) (O:=[boxA u33_1r2 35 [.int .i64 (qcx - qax),.int .i64 (qcy - qay),.int .i64 (qcz - qaz)],boxA u32_1r2 35 [.int .i64 (qbx - qax),.int .i64 (qby - qay),.int .i64 (qbz - qaz)],boxA u20_1 34 [.int .i64 qcx,.int .i64 qcy,.int .i64 qcz],boxA u19_1 34 [.int .i64 qbx,.int .i64 qby,.int .i64 qbz],boxA u18_1 34 [.int .i64 qax,.int .i64 qay,.int .i64 qaz],boxA b8 35 [.int .i64 ((F.getD i (0,0,0)).1),.int .i64 ((F.getD i (0,0,0)).2.1),.int .i64 ((F.getD i (0,0,0)).2.2)],boxA b2 35 [.int .i64 0,.int .i64 0,.int .i64 0],boxA b1 32 [.slice pv nv cv,.slice pf nf cf]]) 20 mixed (.block (.then (.then (.block (.block (.then (.then (.block (.then .ret))))))))) kr<|e_dm 0 rfl rfl rfl<|e_pv 1 rfl rfl (zk (i:=1) Try.underlying35 sz3 rfl rfl dd rfl)<|e_uw 2 rfl rfl (zb 0 ty3 rfl rfl rfl)<|e_dm 3 rfl rfl rfl<|e_pv 4 rfl rfl (zk (i:=2) Try.underlying35 sz3 rfl rfl dd rfl)<|e_uw 5 rfl rfl (zb 2 ty3 rfl rfl rfl)<|e_dm 6 rfl rfl rfl<|e_pv 7 rfl rfl (zk (i:=0) Try.underlying35 sz3 rfl rfl dd rfl)<|e_uw 8 rfl rfl (zb 1 ty3 rfl rfl rfl)<|e_pv 9 rfl rfl (zBa (z:=((qbz - qaz)*(qcx - qax))) rfl rfl (w64 om))<|e_dm 10 rfl rfl rfl<|e_pv 11 rfl rfl (zk (i:=0) Try.underlying35 sz3 rfl rfl dd rfl)<|e_uw 12 rfl rfl (zb 2 ty3 rfl rfl rfl)<|e_dm 13 rfl rfl rfl<|e_pv 14 rfl rfl (zk (i:=2) Try.underlying35 sz3 rfl rfl dd rfl)<|e_uw 15 rfl rfl (zb 1 ty3 rfl rfl rfl)<|e_pv 16 rfl rfl (zBa (z:=((qbx - qax)*(qcz - qaz))) rfl rfl (w64 om))<|e_pv 17 rfl rfl (zxa (z:=(((qbz - qaz)*(qcx - qax)) - ((qbx - qax)*(qcz - qaz)))) rfl rfl (w64 om))<|e_pv 18 rfl rfl (zv (z:=((s).2.1+(((qbz - qaz)*(qcx - qax)) - ((qbx - qax)*(qcz - qaz))))) rfl rfl (w64 om))<|e_pv 19 rfl rfl (zk (i:=1) Try.underlying35 sz3 rfl rfl dd rfl)<|e_one 20 (zma kr rfl rfl rfl rfl rfl sz3 rfl (.skip (.take .nil)) ?_)
     refine zra kr<|zB<|zc<|za<|e_p (zv (z:=2) rfl rfl (w64 dd))<|e_mv rfl<|zi<|zja<|zX<|zf<|za<|e_p (zD rfl rfl)<|zi<|zc<|zf<|zW rfl rfl<|zw<|zc<|zf<|zq<|zf<|za<|e_mv rfl<|e_p (zd rfl)<|zi<|zc<|zf<|za<|e_mv rfl<|e_p (zv (z:=3) rfl rfl (w64 dd))<|e_p (zXa (z:=0) rfl rfl dd dd)<|e_mv rfl<|e_p (zv (z:=4) rfl rfl (w64 dd))<|e_p (zXa (z:=1) rfl rfl dd dd)<|e_p (zd rfl)<|e_p (zd rfl)<|zi<|zc<|zsa (OW:=[boxA b3 35 [.int .i64 ((s).1+(((qby - qay)*(qcz - qaz)) - ((qbz - qaz)*(qcy - qay)))),.int .i64 ((s).2.1+(((qbz - qaz)*(qcx - qax)) - ((qbx - qax)*(qcz - qaz)))),.int .i64 ((s).2.2)]]) (O:=[boxA u33_1r2 35 [.int .i64 (qcx - qax),.int .i64 (qcy - qay),.int .i64 (qcz - qaz)],boxA u32_1r2 35 [.int .i64 (qbx - qax),.int .i64 (qby - qay),.int .i64 (qbz - qaz)],boxA u20_1 34 [.int .i64 qcx,.int .i64 qcy,.int .i64 qcz],boxA u19_1 34 [.int .i64 qbx,.int .i64 qby,.int .i64 qbz],boxA u18_1 34 [.int .i64 qax,.int .i64 qay,.int .i64 qaz],boxA b8 35 [.int .i64 ((F.getD i (0,0,0)).1),.int .i64 ((F.getD i (0,0,0)).2.1),.int .i64 ((F.getD i (0,0,0)).2.2)],boxA b2 35 [.int .i64 0,.int .i64 0,.int .i64 0],boxA b1 32 [.slice pv nv cv,.slice pf nf cf]]) 20 mixed (.block (.then (.then (.block (.block (.then (.then (.block (.then .ret))))))))) kr<|e_dm 0 rfl rfl rfl<|e_pv 1 rfl rfl (zk (i:=2) Try.underlying35 sz3 rfl rfl dd rfl)<|e_uw 2 rfl rfl (zb 0 ty3 rfl rfl rfl)<|e_dm 3 rfl rfl rfl<|e_pv 4 rfl rfl (zk (i:=0) Try.underlying35 sz3 rfl rfl dd rfl)<|e_uw 5 rfl rfl (zb 2 ty3 rfl rfl rfl)<|e_dm 6 rfl rfl rfl<|e_pv 7 rfl rfl (zk (i:=1) Try.underlying35 sz3 rfl rfl dd rfl)<|e_uw 8 rfl rfl (zb 1 ty3 rfl rfl rfl)<|e_pv 9 rfl rfl (zBa (z:=((qbx - qax)*(qcy - qay))) rfl rfl (w64 om))<|e_dm 10 rfl rfl rfl<|e_pv 11 rfl rfl (zk (i:=1) Try.underlying35 sz3 rfl rfl dd rfl)<|e_uw 12 rfl rfl (zb 2 ty3 rfl rfl rfl)<|e_dm 13 rfl rfl rfl<|e_pv 14 rfl rfl (zk (i:=0) Try.underlying35 sz3 rfl rfl dd rfl)<|e_uw 15 rfl rfl (zb 1 ty3 rfl rfl rfl)<|e_pv 16 rfl rfl (zBa (z:=((qby - qay)*(qcx - qax))) rfl rfl (w64 om))<|e_pv 17 rfl rfl (zxa (z:=(((qbx - qax)*(qcy - qay)) - ((qby - qay)*(qcx - qax)))) rfl rfl (w64 om))<|e_pv 18 rfl rfl (zv (z:=((s).2.2+(((qbx - qax)*(qcy - qay)) - ((qby - qay)*(qcx - qax))))) rfl rfl (w64 om))<|e_pv 19 rfl rfl (zk (i:=2) Try.underlying35 sz3 rfl rfl dd rfl)<|e_one 20 (zma kr rfl rfl rfl rfl rfl sz3 rfl (.s2 (.take .nil)) ?_)
     refine zra kr<|zB<|zc<|za<|e_p (zv (z:=3) rfl rfl (w64 dd))<|e_mv rfl<|zi<|zja<|zX<|zf<|za<|e_p (zD rfl rfl)<|zi<|zc<|zf<|zEa rfl rfl<|zP<|zj<|zj<|zo<|zB<|zc<|za<|e_p (zv (z:=(((i+1):Nat):Int)) rfl rfl (w64 om))<|e_mv rfl<|zi<|zQ ((i+1),(((s).1+(((qby - qay)*(qcz - qaz)) - ((qbz - qaz)*(qcy - qay)))),((s).2.1+(((qbz - qaz)*(qcx - qax)) - ((qbx - qax)*(qcz - qaz)))),((s).2.2+(((qbx - qax)*(qcy - qay)) - ((qby - qay)*(qcx - qax)))))) (show (i+1)≤nf∧(((s).1+(((qby - qay)*(qcz - qaz)) - ((qbz - qaz)*(qcy - qay)))),((s).2.1+(((qbz - qaz)*(qcx - qax)) - ((qbx - qax)*(qcz - qaz)))),((s).2.2+(((qbx - qax)*(qcy - qay)) - ((qby - qay)*(qcx - qax)))))=Ms.vecS V (F.take (i+1))∧(-(8796093022208*((i+1):Int))≤(((s).1+(((qby - qay)*(qcz - qaz)) - ((qbz - qaz)*(qcy - qay)))),((s).2.1+(((qbz - qaz)*(qcx - qax)) - ((qbx - qax)*(qcz - qaz)))),((s).2.2+(((qbx - qax)*(qcy - qay)) - ((qby - qay)*(qcx - qax))))).1∧(((s).1+(((qby - qay)*(qcz - qaz)) - ((qbz - qaz)*(qcy - qay)))),((s).2.1+(((qbz - qaz)*(qcx - qax)) - ((qbx - qax)*(qcz - qaz)))),((s).2.2+(((qbx - qax)*(qcy - qay)) - ((qby - qay)*(qcx - qax))))).1≤8796093022208*((i+1):Int))∧(-(8796093022208*((i+1):Int))≤(((s).1+(((qby - qay)*(qcz - qaz)) - ((qbz - qaz)*(qcy - qay)))),((s).2.1+(((qbz - qaz)*(qcx - qax)) - ((qbx - qax)*(qcz - qaz)))),((s).2.2+(((qbx - qax)*(qcy - qay)) - ((qby - qay)*(qcx - qax))))).2.1∧(((s).1+(((qby - qay)*(qcz - qaz)) - ((qbz - qaz)*(qcy - qay)))),((s).2.1+(((qbz - qaz)*(qcx - qax)) - ((qbx - qax)*(qcz - qaz)))),((s).2.2+(((qbx - qax)*(qcy - qay)) - ((qby - qay)*(qcx - qax))))).2.1≤8796093022208*((i+1):Int))∧(-(8796093022208*((i+1):Int))≤(((s).1+(((qby - qay)*(qcz - qaz)) - ((qbz - qaz)*(qcy - qay)))),((s).2.1+(((qbz - qaz)*(qcx - qax)) - ((qbx - qax)*(qcz - qaz)))),((s).2.2+(((qbx - qax)*(qcy - qay)) - ((qby - qay)*(qcx - qax))))).2.2∧(((s).1+(((qby - qay)*(qcz - qaz)) - ((qbz - qaz)*(qcy - qay)))),((s).2.1+(((qbz - qaz)*(qcx - qax)) - ((qbx - qax)*(qcz - qaz)))),((s).2.2+(((qbx - qax)*(qcy - qay)) - ((qby - qay)*(qcx - qax))))).2.2≤8796093022208*((i+1):Int)) from by subst hqax hqay hqaz hqbx hqby hqbz hqcx hqcy hqcz;exact ⟨by omega,by rw [Ms.vecS_take om,←hs];simp [Ms.nrm,Ms.cross,Ms.sub,Ms.pt],by dsimp only;omega,by dsimp only;omega,by dsimp only;omega⟩) (by show nf - (i+1)<nf - i;omega) (mR rfl) (ho:=((.e (i:=0) rfl cgs (.of [6,6] rfl)):PickO _ _ _)) ((.of [0,1] rfl):SelR _ _ _)
    refine zaa (X:=Nat×Nat) (k':=1) (L':=(lb 36 34359738367)) (fun (u32_1r2,u33_1r2)=>([(12,.pointer (some ⟨u33_1r2,0,none⟩)),(11,.pointer (some ⟨u32_1r2,0,none⟩)),(78,.agg #[.int .i64 (qcx - qax),.int .i64 (qcy - qay),.int .i64 (qcz - qaz)]),(25,.int .i64 ((i:Nat):Int)),(24,.int .i64 ((nf:Nat):Int)),(23,.slice pf nf cf),(5,.pointer (some ⟨b3,0,none⟩)),(3,.int .i64 0),(2,.pointer (some ⟨b2,0,none⟩)),(1,.pointer (some ⟨b1,0,none⟩))],[boxA u32_1r2 35 [.int .i64 (qbx - qax),.int .i64 (qby - qay),.int .i64 (qbz - qaz)],boxA u33_1r2 35 [.int .i64 0,.int .i64 0,.int .i64 0]],[boxA u20_1 34 [.int .i64 qcx,.int .i64 qcy,.int .i64 qcz],boxA u19_1 34 [.int .i64 qbx,.int .i64 qby,.int .i64 qbz],boxA u18_1 34 [.int .i64 qax,.int .i64 qay,.int .i64 qaz],boxA b8 35 [.int .i64 ((F.getD i (0,0,0)).1),.int .i64 ((F.getD i (0,0,0)).2.1),.int .i64 ((F.getD i (0,0,0)).2.2)],boxA b3 35 [.int .i64 ((s).1),.int .i64 ((s).2.1),.int .i64 ((s).2.2)],boxA b2 35 [.int .i64 0,.int .i64 0,.int .i64 0],boxA b1 32 [.slice pv nv cv,.slice pf nf cf]],[slF (rI3 .i64) pv cv V,slF (rI3 .i64) pf cf F])) ?_ (fun hD1=> ?_)
    ·
     rintro ⟨u32_1r2,u33_1r2⟩
     dsimp only
     refine zHa 35 kr ?_
     ·
      refine zZa (zK (i:=1) rfl)<|zma kr rfl rfl rfl rfl rfl sz35 rfl (.t2 (.take .nil)) ?_
      exact zH (hD0 (u32_1r2,u33_1r2)) kr (mR rfl) .rfl .rfl ((.of [0,1] rfl):SelR _ _ _)
    refine zaa (X:=Nat×Nat) (k':=2) (L':=(lb 36 17179869183)) (fun (u32_1r2,u33_1r2)=>([(12,.pointer (some ⟨u33_1r2,0,none⟩)),(11,.pointer (some ⟨u32_1r2,0,none⟩)),(78,.agg #[.int .i64 (qcx - qax),.int .i64 (qcy - qay),.int .i64 (qcz - qaz)]),(62,.agg #[.int .i64 (qbx - qax),.int .i64 (qby - qay),.int .i64 (qbz - qaz)]),(25,.int .i64 ((i:Nat):Int)),(24,.int .i64 ((nf:Nat):Int)),(23,.slice pf nf cf),(5,.pointer (some ⟨b3,0,none⟩)),(3,.int .i64 0),(2,.pointer (some ⟨b2,0,none⟩)),(1,.pointer (some ⟨b1,0,none⟩))],[boxA u33_1r2 35 [.int .i64 0,.int .i64 0,.int .i64 0],boxA u32_1r2 35 [.int .i64 0,.int .i64 0,.int .i64 0]],[boxA u20_1 34 [.int .i64 qcx,.int .i64 qcy,.int .i64 qcz],boxA u19_1 34 [.int .i64 qbx,.int .i64 qby,.int .i64 qbz],boxA u18_1 34 [.int .i64 qax,.int .i64 qay,.int .i64 qaz],boxA b8 35 [.int .i64 ((F.getD i (0,0,0)).1),.int .i64 ((F.getD i (0,0,0)).2.1),.int .i64 ((F.getD i (0,0,0)).2.2)],boxA b3 35 [.int .i64 ((s).1),.int .i64 ((s).2.1),.int .i64 ((s).2.2)],boxA b2 35 [.int .i64 0,.int .i64 0,.int .i64 0],boxA b1 32 [.slice pv nv cv,.slice pf nf cf]],[slF (rI3 .i64) pv cv V,slF (rI3 .i64) pf cf F])) ?_ (fun hD2=> ?_)
    ·
     rintro ⟨u32_1r2,u33_1r2⟩
     dsimp only
     refine zHa 34 kr ?_
     ·
      refine zZa (zK (i:=1) rfl)<|zma kr rfl rfl rfl rfl rfl sz35 rfl (.t2 (.take .nil)) ?_
      exact zH (hD1 (u32_1r2,u33_1r2)) kr (mR rfl) .rfl .rfl ((.of [0,1] rfl):SelR _ _ _)
    refine zaa (X:=Nat) (k':=3) (L':=(lb 36 8589934591)) (fun u32_1r2=>([(11,.pointer (some ⟨u32_1r2,0,none⟩)),(78,.agg #[.int .i64 (qcx - qax),.int .i64 (qcy - qay),.int .i64 (qcz - qaz)]),(62,.agg #[.int .i64 (qbx - qax),.int .i64 (qby - qay),.int .i64 (qbz - qaz)]),(25,.int .i64 ((i:Nat):Int)),(24,.int .i64 ((nf:Nat):Int)),(23,.slice pf nf cf),(5,.pointer (some ⟨b3,0,none⟩)),(3,.int .i64 0),(2,.pointer (some ⟨b2,0,none⟩)),(1,.pointer (some ⟨b1,0,none⟩))],[boxA u32_1r2 35 [.int .i64 0,.int .i64 0,.int .i64 0]],[boxA u20_1 34 [.int .i64 qcx,.int .i64 qcy,.int .i64 qcz],boxA u19_1 34 [.int .i64 qbx,.int .i64 qby,.int .i64 qbz],boxA u18_1 34 [.int .i64 qax,.int .i64 qay,.int .i64 qaz],boxA b8 35 [.int .i64 ((F.getD i (0,0,0)).1),.int .i64 ((F.getD i (0,0,0)).2.1),.int .i64 ((F.getD i (0,0,0)).2.2)],boxA b3 35 [.int .i64 ((s).1),.int .i64 ((s).2.1),.int .i64 ((s).2.2)],boxA b2 35 [.int .i64 0,.int .i64 0,.int .i64 0],boxA b1 32 [.slice pv nv cv,.slice pf nf cf]],[slF (rI3 .i64) pv cv V,slF (rI3 .i64) pf cf F])) ?_ (fun hD3=> ?_)
    ·
     rintro u32_1r2
     dsimp only
     refine zHa 33 kr ?_
     ·
      refine zIa rfl rfl rfl rfl (zF zr35 rfl) (fun u33_1r2 _=> ?_)
      exact zH (hD2 (u32_1r2,u33_1r2)) kr (mR rfl) .rfl .rfl ((.of [0,1] rfl):SelR _ _ _)
    refine zaa (X:=Nat) (k':=3) (L':=(lb 36 12884901887)) (fun u33_1r2=>([(12,.pointer (some ⟨u33_1r2,0,none⟩)),(78,.agg #[.int .i64 (qcx - qax),.int .i64 (qcy - qay),.int .i64 (qcz - qaz)]),(62,.agg #[.int .i64 (qbx - qax),.int .i64 (qby - qay),.int .i64 (qbz - qaz)]),(25,.int .i64 ((i:Nat):Int)),(24,.int .i64 ((nf:Nat):Int)),(23,.slice pf nf cf),(5,.pointer (some ⟨b3,0,none⟩)),(3,.int .i64 0),(2,.pointer (some ⟨b2,0,none⟩)),(1,.pointer (some ⟨b1,0,none⟩))],[boxA u33_1r2 35 [.int .i64 0,.int .i64 0,.int .i64 0]],[boxA u20_1 34 [.int .i64 qcx,.int .i64 qcy,.int .i64 qcz],boxA u19_1 34 [.int .i64 qbx,.int .i64 qby,.int .i64 qbz],boxA u18_1 34 [.int .i64 qax,.int .i64 qay,.int .i64 qaz],boxA b8 35 [.int .i64 ((F.getD i (0,0,0)).1),.int .i64 ((F.getD i (0,0,0)).2.1),.int .i64 ((F.getD i (0,0,0)).2.2)],boxA b3 35 [.int .i64 ((s).1),.int .i64 ((s).2.1),.int .i64 ((s).2.2)],boxA b2 35 [.int .i64 0,.int .i64 0,.int .i64 0],boxA b1 32 [.slice pv nv cv,.slice pf nf cf]],[slF (rI3 .i64) pv cv V,slF (rI3 .i64) pf cf F])) ?_ (fun hD4=> ?_)
    ·
     rintro u33_1r2
     dsimp only
     refine zHa 32 kr ?_
     ·
      refine zIa rfl rfl rfl rfl (zF zr35 rfl) (fun u32_1r2 _=> ?_)
      exact zH (hD2 (u32_1r2,u33_1r2)) kr (mR rfl) (zta 1 rfl (zta 0 rfl .nil)) .rfl ((.of [0,1] rfl):SelR _ _ _)
    refine zDb 32 33 kr ?_ ?_
    ·
     refine zIa rfl rfl rfl rfl (zF zr35 rfl) (fun u32_1r2 _=> ?_)
     exact zH (hD3 u32_1r2) kr (mR rfl) .rfl .rfl ((.of [0,1] rfl):SelR _ _ _)
    ·
     refine zIa rfl rfl rfl rfl (zF zr35 rfl) (fun u33_1r2 _=> ?_)
     exact zH (hD4 u33_1r2) kr (mR rfl) .rfl .rfl ((.of [0,1] rfl):SelR _ _ _)
   refine zaa (X:=Nat×Nat×Nat) (k':=1) (L':=(lb 24 8388607)) (fun (u18_1,u19_1,u20_1)=>([(10,.pointer (some ⟨u20_1,0,none⟩)),(9,.pointer (some ⟨u19_1,0,none⟩)),(8,.pointer (some ⟨u18_1,0,none⟩)),(46,.agg #[.int .i64 qcx,.int .i64 qcy,.int .i64 qcz]),(25,.int .i64 ((i:Nat):Int)),(24,.int .i64 ((nf:Nat):Int)),(23,.slice pf nf cf),(5,.pointer (some ⟨b3,0,none⟩)),(3,.int .i64 0),(2,.pointer (some ⟨b2,0,none⟩)),(1,.pointer (some ⟨b1,0,none⟩))],[boxA u19_1 34 [.int .i64 qbx,.int .i64 qby,.int .i64 qbz],boxA u18_1 34 [.int .i64 qax,.int .i64 qay,.int .i64 qaz],boxA u20_1 34 [.int .i64 0,.int .i64 0,.int .i64 0]],[boxA b8 35 [.int .i64 ((F.getD i (0,0,0)).1),.int .i64 ((F.getD i (0,0,0)).2.1),.int .i64 ((F.getD i (0,0,0)).2.2)],boxA b3 35 [.int .i64 ((s).1),.int .i64 ((s).2.1),.int .i64 ((s).2.2)],boxA b2 35 [.int .i64 0,.int .i64 0,.int .i64 0],boxA b1 32 [.slice pv nv cv,.slice pf nf cf]],[slF (rI3 .i64) pv cv V,slF (rI3 .i64) pf cf F])) ?_ (fun hD1=> ?_)
   ·
    rintro ⟨u18_1,u19_1,u20_1⟩
    dsimp only
    refine zHa 23 kr ?_
    ·
     refine zZa (zK (i:=2) rfl)<|zma kr rfl rfl rfl rfl rfl sz34 rfl (.t2 (.take .nil)) ?_
     exact zH (hD0 (u18_1,u19_1,u20_1)) kr (mR rfl) .rfl .rfl ((.of [0,1] rfl):SelR _ _ _)
   refine zaa (X:=Nat×Nat×Nat) (k':=2) (L':=(lb 24 4194303)) (fun (u18_1,u19_1,u20_1)=>([(10,.pointer (some ⟨u20_1,0,none⟩)),(9,.pointer (some ⟨u19_1,0,none⟩)),(8,.pointer (some ⟨u18_1,0,none⟩)),(46,.agg #[.int .i64 qcx,.int .i64 qcy,.int .i64 qcz]),(40,.agg #[.int .i64 qbx,.int .i64 qby,.int .i64 qbz]),(25,.int .i64 ((i:Nat):Int)),(24,.int .i64 ((nf:Nat):Int)),(23,.slice pf nf cf),(5,.pointer (some ⟨b3,0,none⟩)),(3,.int .i64 0),(2,.pointer (some ⟨b2,0,none⟩)),(1,.pointer (some ⟨b1,0,none⟩))],[boxA u18_1 34 [.int .i64 qax,.int .i64 qay,.int .i64 qaz],boxA u20_1 34 [.int .i64 0,.int .i64 0,.int .i64 0],boxA u19_1 34 [.int .i64 0,.int .i64 0,.int .i64 0]],[boxA b8 35 [.int .i64 ((F.getD i (0,0,0)).1),.int .i64 ((F.getD i (0,0,0)).2.1),.int .i64 ((F.getD i (0,0,0)).2.2)],boxA b3 35 [.int .i64 ((s).1),.int .i64 ((s).2.1),.int .i64 ((s).2.2)],boxA b2 35 [.int .i64 0,.int .i64 0,.int .i64 0],boxA b1 32 [.slice pv nv cv,.slice pf nf cf]],[slF (rI3 .i64) pv cv V,slF (rI3 .i64) pf cf F])) ?_ (fun hD2=> ?_)
   ·
    rintro ⟨u18_1,u19_1,u20_1⟩
    dsimp only
    refine zHa 22 kr ?_
    ·
     refine zZa (zK (i:=2) rfl)<|zma kr rfl rfl rfl rfl rfl sz34 rfl (.t2 (.take .nil)) ?_
     exact zH (hD1 (u18_1,u19_1,u20_1)) kr (mR rfl) .rfl .rfl ((.of [0,1] rfl):SelR _ _ _)
   refine zaa (X:=Nat×Nat×Nat) (k':=3) (L':=(lb 24 2097151)) (fun (u18_1,u19_1,u20_1)=>([(10,.pointer (some ⟨u20_1,0,none⟩)),(9,.pointer (some ⟨u19_1,0,none⟩)),(8,.pointer (some ⟨u18_1,0,none⟩)),(46,.agg #[.int .i64 qcx,.int .i64 qcy,.int .i64 qcz]),(40,.agg #[.int .i64 qbx,.int .i64 qby,.int .i64 qbz]),(34,.agg #[.int .i64 qax,.int .i64 qay,.int .i64 qaz]),(25,.int .i64 ((i:Nat):Int)),(24,.int .i64 ((nf:Nat):Int)),(23,.slice pf nf cf),(5,.pointer (some ⟨b3,0,none⟩)),(3,.int .i64 0),(2,.pointer (some ⟨b2,0,none⟩)),(1,.pointer (some ⟨b1,0,none⟩))],[boxA u20_1 34 [.int .i64 0,.int .i64 0,.int .i64 0],boxA u19_1 34 [.int .i64 0,.int .i64 0,.int .i64 0],boxA u18_1 34 [.int .i64 0,.int .i64 0,.int .i64 0]],[boxA b8 35 [.int .i64 ((F.getD i (0,0,0)).1),.int .i64 ((F.getD i (0,0,0)).2.1),.int .i64 ((F.getD i (0,0,0)).2.2)],boxA b3 35 [.int .i64 ((s).1),.int .i64 ((s).2.1),.int .i64 ((s).2.2)],boxA b2 35 [.int .i64 0,.int .i64 0,.int .i64 0],boxA b1 32 [.slice pv nv cv,.slice pf nf cf]],[slF (rI3 .i64) pv cv V,slF (rI3 .i64) pf cf F])) ?_ (fun hD3=> ?_)
   ·
    rintro ⟨u18_1,u19_1,u20_1⟩
    dsimp only
    refine zHa 21 kr ?_
    ·
     refine zZa (zK (i:=2) rfl)<|zma kr rfl rfl rfl rfl rfl sz34 rfl (.t2 (.take .nil)) ?_
     exact zH (hD2 (u18_1,u19_1,u20_1)) kr (mR rfl) .rfl .rfl ((.of [0,1] rfl):SelR _ _ _)
   refine zaa (X:=Nat×Nat) (k':=4) (L':=(lb 24 1048575)) (fun (u18_1,u19_1)=>([(9,.pointer (some ⟨u19_1,0,none⟩)),(8,.pointer (some ⟨u18_1,0,none⟩)),(46,.agg #[.int .i64 qcx,.int .i64 qcy,.int .i64 qcz]),(40,.agg #[.int .i64 qbx,.int .i64 qby,.int .i64 qbz]),(34,.agg #[.int .i64 qax,.int .i64 qay,.int .i64 qaz]),(25,.int .i64 ((i:Nat):Int)),(24,.int .i64 ((nf:Nat):Int)),(23,.slice pf nf cf),(5,.pointer (some ⟨b3,0,none⟩)),(3,.int .i64 0),(2,.pointer (some ⟨b2,0,none⟩)),(1,.pointer (some ⟨b1,0,none⟩))],[boxA u19_1 34 [.int .i64 0,.int .i64 0,.int .i64 0],boxA u18_1 34 [.int .i64 0,.int .i64 0,.int .i64 0]],[boxA b8 35 [.int .i64 ((F.getD i (0,0,0)).1),.int .i64 ((F.getD i (0,0,0)).2.1),.int .i64 ((F.getD i (0,0,0)).2.2)],boxA b3 35 [.int .i64 ((s).1),.int .i64 ((s).2.1),.int .i64 ((s).2.2)],boxA b2 35 [.int .i64 0,.int .i64 0,.int .i64 0],boxA b1 32 [.slice pv nv cv,.slice pf nf cf]],[slF (rI3 .i64) pv cv V,slF (rI3 .i64) pf cf F])) ?_ (fun hD4=> ?_)
   ·
    rintro ⟨u18_1,u19_1⟩
    dsimp only
    refine zHa 20 kr ?_
    ·
     refine zIa rfl rfl rfl rfl (zF zr34 rfl) (fun u20_1 _=> ?_)
     exact zH (hD3 (u18_1,u19_1,u20_1)) kr (mR rfl) .rfl .rfl ((.of [0,1] rfl):SelR _ _ _)
   refine zaa (X:=Nat×Nat) (k':=4) (L':=(lb 24 1572863)) (fun (u18_1,u20_1)=>([(10,.pointer (some ⟨u20_1,0,none⟩)),(8,.pointer (some ⟨u18_1,0,none⟩)),(46,.agg #[.int .i64 qcx,.int .i64 qcy,.int .i64 qcz]),(40,.agg #[.int .i64 qbx,.int .i64 qby,.int .i64 qbz]),(34,.agg #[.int .i64 qax,.int .i64 qay,.int .i64 qaz]),(25,.int .i64 ((i:Nat):Int)),(24,.int .i64 ((nf:Nat):Int)),(23,.slice pf nf cf),(5,.pointer (some ⟨b3,0,none⟩)),(3,.int .i64 0),(2,.pointer (some ⟨b2,0,none⟩)),(1,.pointer (some ⟨b1,0,none⟩))],[boxA u20_1 34 [.int .i64 0,.int .i64 0,.int .i64 0],boxA u18_1 34 [.int .i64 0,.int .i64 0,.int .i64 0]],[boxA b8 35 [.int .i64 ((F.getD i (0,0,0)).1),.int .i64 ((F.getD i (0,0,0)).2.1),.int .i64 ((F.getD i (0,0,0)).2.2)],boxA b3 35 [.int .i64 ((s).1),.int .i64 ((s).2.1),.int .i64 ((s).2.2)],boxA b2 35 [.int .i64 0,.int .i64 0,.int .i64 0],boxA b1 32 [.slice pv nv cv,.slice pf nf cf]],[slF (rI3 .i64) pv cv V,slF (rI3 .i64) pf cf F])) ?_ (fun hD5=> ?_)
   ·
    rintro ⟨u18_1,u20_1⟩
    dsimp only
    refine zHa 19 kr ?_
    ·
     refine zIa rfl rfl rfl rfl (zF zr34 rfl) (fun u19_1 _=> ?_)
     exact zH (hD3 (u18_1,u19_1,u20_1)) kr (mR rfl) (zta 1 rfl (zta 0 rfl (zta 0 rfl .nil))) .rfl ((.of [0,1] rfl):SelR _ _ _)
   refine zaa (X:=Nat×Nat) (k':=4) (L':=(lb 24 1835007)) (fun (u19_1,u20_1)=>([(10,.pointer (some ⟨u20_1,0,none⟩)),(9,.pointer (some ⟨u19_1,0,none⟩)),(46,.agg #[.int .i64 qcx,.int .i64 qcy,.int .i64 qcz]),(40,.agg #[.int .i64 qbx,.int .i64 qby,.int .i64 qbz]),(34,.agg #[.int .i64 qax,.int .i64 qay,.int .i64 qaz]),(25,.int .i64 ((i:Nat):Int)),(24,.int .i64 ((nf:Nat):Int)),(23,.slice pf nf cf),(5,.pointer (some ⟨b3,0,none⟩)),(3,.int .i64 0),(2,.pointer (some ⟨b2,0,none⟩)),(1,.pointer (some ⟨b1,0,none⟩))],[boxA u20_1 34 [.int .i64 0,.int .i64 0,.int .i64 0],boxA u19_1 34 [.int .i64 0,.int .i64 0,.int .i64 0]],[boxA b8 35 [.int .i64 ((F.getD i (0,0,0)).1),.int .i64 ((F.getD i (0,0,0)).2.1),.int .i64 ((F.getD i (0,0,0)).2.2)],boxA b3 35 [.int .i64 ((s).1),.int .i64 ((s).2.1),.int .i64 ((s).2.2)],boxA b2 35 [.int .i64 0,.int .i64 0,.int .i64 0],boxA b1 32 [.slice pv nv cv,.slice pf nf cf]],[slF (rI3 .i64) pv cv V,slF (rI3 .i64) pf cf F])) ?_ (fun hD6=> ?_)
   ·
    rintro ⟨u19_1,u20_1⟩
    dsimp only
    refine zHa 18 kr ?_
    ·
     refine zIa rfl rfl rfl rfl (zF zr34 rfl) (fun u18_1 _=> ?_)
     exact zH (hD3 (u18_1,u19_1,u20_1)) kr (mR rfl) (zta 1 rfl (zta 1 rfl (zta 0 rfl .nil))) .rfl ((.of [0,1] rfl):SelR _ _ _)
   refine zaa (X:=Nat) (k':=5) (L':=(lb 24 524287)) (fun u18_1=>([(8,.pointer (some ⟨u18_1,0,none⟩)),(46,.agg #[.int .i64 qcx,.int .i64 qcy,.int .i64 qcz]),(40,.agg #[.int .i64 qbx,.int .i64 qby,.int .i64 qbz]),(34,.agg #[.int .i64 qax,.int .i64 qay,.int .i64 qaz]),(25,.int .i64 ((i:Nat):Int)),(24,.int .i64 ((nf:Nat):Int)),(23,.slice pf nf cf),(5,.pointer (some ⟨b3,0,none⟩)),(3,.int .i64 0),(2,.pointer (some ⟨b2,0,none⟩)),(1,.pointer (some ⟨b1,0,none⟩))],[boxA u18_1 34 [.int .i64 0,.int .i64 0,.int .i64 0]],[boxA b8 35 [.int .i64 ((F.getD i (0,0,0)).1),.int .i64 ((F.getD i (0,0,0)).2.1),.int .i64 ((F.getD i (0,0,0)).2.2)],boxA b3 35 [.int .i64 ((s).1),.int .i64 ((s).2.1),.int .i64 ((s).2.2)],boxA b2 35 [.int .i64 0,.int .i64 0,.int .i64 0],boxA b1 32 [.slice pv nv cv,.slice pf nf cf]],[slF (rI3 .i64) pv cv V,slF (rI3 .i64) pf cf F])) ?_ (fun hD7=> ?_)
   ·
    rintro u18_1
    dsimp only
    refine zDb 19 20 kr ?_ ?_
    ·
     refine zIa rfl rfl rfl rfl (zF zr34 rfl) (fun u19_1 _=> ?_)
     exact zH (hD4 (u18_1,u19_1)) kr (mR rfl) .rfl .rfl ((.of [0,1] rfl):SelR _ _ _)
    ·
     refine zIa rfl rfl rfl rfl (zF zr34 rfl) (fun u20_1 _=> ?_)
     exact zH (hD5 (u18_1,u20_1)) kr (mR rfl) .rfl .rfl ((.of [0,1] rfl):SelR _ _ _)
   refine zaa (X:=Nat) (k':=5) (L':=(lb 24 786431)) (fun u19_1=>([(9,.pointer (some ⟨u19_1,0,none⟩)),(46,.agg #[.int .i64 qcx,.int .i64 qcy,.int .i64 qcz]),(40,.agg #[.int .i64 qbx,.int .i64 qby,.int .i64 qbz]),(34,.agg #[.int .i64 qax,.int .i64 qay,.int .i64 qaz]),(25,.int .i64 ((i:Nat):Int)),(24,.int .i64 ((nf:Nat):Int)),(23,.slice pf nf cf),(5,.pointer (some ⟨b3,0,none⟩)),(3,.int .i64 0),(2,.pointer (some ⟨b2,0,none⟩)),(1,.pointer (some ⟨b1,0,none⟩))],[boxA u19_1 34 [.int .i64 0,.int .i64 0,.int .i64 0]],[boxA b8 35 [.int .i64 ((F.getD i (0,0,0)).1),.int .i64 ((F.getD i (0,0,0)).2.1),.int .i64 ((F.getD i (0,0,0)).2.2)],boxA b3 35 [.int .i64 ((s).1),.int .i64 ((s).2.1),.int .i64 ((s).2.2)],boxA b2 35 [.int .i64 0,.int .i64 0,.int .i64 0],boxA b1 32 [.slice pv nv cv,.slice pf nf cf]],[slF (rI3 .i64) pv cv V,slF (rI3 .i64) pf cf F])) ?_ (fun hD8=> ?_)
   ·
    rintro u19_1
    dsimp only
    refine zDb 18 20 kr ?_ ?_
    ·
     refine zIa rfl rfl rfl rfl (zF zr34 rfl) (fun u18_1 _=> ?_)
     exact zH (hD4 (u18_1,u19_1)) kr (mR rfl) (zta 1 rfl (zta 0 rfl .nil)) .rfl ((.of [0,1] rfl):SelR _ _ _)
    ·
     refine zIa rfl rfl rfl rfl (zF zr34 rfl) (fun u20_1 _=> ?_)
     exact zH (hD6 (u19_1,u20_1)) kr (mR rfl) .rfl .rfl ((.of [0,1] rfl):SelR _ _ _)
   refine zaa (X:=Nat) (k':=5) (L':=(lb 24 1310719)) (fun u20_1=>([(10,.pointer (some ⟨u20_1,0,none⟩)),(46,.agg #[.int .i64 qcx,.int .i64 qcy,.int .i64 qcz]),(40,.agg #[.int .i64 qbx,.int .i64 qby,.int .i64 qbz]),(34,.agg #[.int .i64 qax,.int .i64 qay,.int .i64 qaz]),(25,.int .i64 ((i:Nat):Int)),(24,.int .i64 ((nf:Nat):Int)),(23,.slice pf nf cf),(5,.pointer (some ⟨b3,0,none⟩)),(3,.int .i64 0),(2,.pointer (some ⟨b2,0,none⟩)),(1,.pointer (some ⟨b1,0,none⟩))],[boxA u20_1 34 [.int .i64 0,.int .i64 0,.int .i64 0]],[boxA b8 35 [.int .i64 ((F.getD i (0,0,0)).1),.int .i64 ((F.getD i (0,0,0)).2.1),.int .i64 ((F.getD i (0,0,0)).2.2)],boxA b3 35 [.int .i64 ((s).1),.int .i64 ((s).2.1),.int .i64 ((s).2.2)],boxA b2 35 [.int .i64 0,.int .i64 0,.int .i64 0],boxA b1 32 [.slice pv nv cv,.slice pf nf cf]],[slF (rI3 .i64) pv cv V,slF (rI3 .i64) pf cf F])) ?_ (fun hD9=> ?_)
   ·
    rintro u20_1
    dsimp only
    refine zDb 18 19 kr ?_ ?_
    ·
     refine zIa rfl rfl rfl rfl (zF zr34 rfl) (fun u18_1 _=> ?_)
     exact zH (hD5 (u18_1,u20_1)) kr (mR rfl) (zta 1 rfl (zta 0 rfl .nil)) .rfl ((.of [0,1] rfl):SelR _ _ _)
    ·
     refine zIa rfl rfl rfl rfl (zF zr34 rfl) (fun u19_1 _=> ?_)
     exact zH (hD6 (u19_1,u20_1)) kr (mR rfl) (zta 1 rfl (zta 0 rfl .nil)) .rfl ((.of [0,1] rfl):SelR _ _ _)
   refine zjd 18 19 20 kr ?_ ?_ ?_
   ·
    refine zIa rfl rfl rfl rfl (zF zr34 rfl) (fun u18_1 _=> ?_)
    exact zH (hD7 u18_1) kr (mR rfl) .rfl .rfl ((.of [0,1] rfl):SelR _ _ _)
   ·
    refine zIa rfl rfl rfl rfl (zF zr34 rfl) (fun u19_1 _=> ?_)
    exact zH (hD8 u19_1) kr (mR rfl) .rfl .rfl ((.of [0,1] rfl):SelR _ _ _)
   ·
    refine zIa rfl rfl rfl rfl (zF zr34 rfl) (fun u20_1 _=> ?_)
    exact zH (hD9 u20_1) kr (mR rfl) .rfl .rfl ((.of [0,1] rfl):SelR _ _ _)
  ·
   refine zP<|zj<|zj<|zo<|zc<|zf<|za<|e_ru (zm 0 ty35 rfl rfl (.t2 (.take .nil)))<|zE 1 rfl rfl rfl rfl rfl sz35 rfl (.t2 (.take .nil)) (.s .z)<|e_p (zd rfl)<|zi<|zc<|zU ?_
   have hz:Ms.vecR V F=s:=by unfold Ms.vecR;rw [if_pos hc0,hs,List.take_of_length_le om]
   exact zLa Try.results12 () trivial (zPa 1 ty35 rfl rfl (.t2 (.take .nil))) (zx rfl) (by rw [hz,hc0]) (ho:=oN) sN
end Go.Proofs.Ytpdbimfnhglhpaa.Sp
namespace Go.Proofs.Ytpdbimfnhglhpaa.Sp
open Go
set_option linter.unusedVariables false
set_option maxRecDepth 100000
set_option maxHeartbeats 8000000
theorem zgb {xi:Nat} {yi:Nat} {bR:Nat} {bW:Nat} {bT:Nat} {wn:Nat} {hn9:Nat} {m:Int} {p:Option Addr} {n:Nat} {cap:Nat} {l:List Int} {th:Int} (hn:l.length=n) (hx:yi*wn+xi<n) (hb:n≤4096):Con Try.prog 6 [ya yb ((xi:Nat):Int),ya yb ((yi:Nat):Int),.pointer (some ⟨bR,0,none⟩),.pointer (some ⟨bW,0,none⟩),.pointer (some ⟨bT,0,none⟩)] [] [atF bR 0 [ya yb ((wn:Nat):Int),ya yb ((hn9:Nat):Int),ya yb m,.slice p n cap],atF bW 0 [ya yb ((wn:Nat):Int)],atF bT 0 [ya yb th],slF (rI .i64) p cap l] (Y:=Unit) (fun y=>True) (fun y=> .bool (decide (th≤l.getD (yi*wn+xi) 0))) (fun y=>[]) (fun y=>[]):=by
 refine zC Try.func6 rfl rfl rfl (fun c=> ?_)
 show RunC _ _ _ _ _ [(0,ya yb ((xi:Nat):Int)),(1,ya yb ((yi:Nat):Int)),(2,.pointer (some ⟨bR,0,none⟩)),(3,.pointer (some ⟨bW,0,none⟩)),(4,.pointer (some ⟨bT,0,none⟩))] [] [atF bR 0 [ya yb ((wn:Nat):Int),ya yb ((hn9:Nat):Int),ya yb m,.slice p n cap],atF bW 0 [ya yb ((wn:Nat):Int)],atF bT 0 [ya yb th],slF (rI .i64) p cap l]
 refine zpa 3 rfl (fun hL3=> ?_)
 have hyb:yi*wn≤4096:=by omega
 refine zf<|za<|e_p (zd rfl)<|zi<|zc<|zf<|zsa (OW:=[]) (O:=[]) 100000 mixed (.then .ret) kr<|e_pv 0 rfl rfl (zg Try.underlying24 rfl sz22 rfl rfl)<|e_u 1 rfl rfl (zp (j:=3) 0 ty22 rfl rfl rfl rfl)<|e_dm 2 rfl rfl rfl<|e_u 3 rfl rfl (zp (j:=0) 1 ty3 rfl rfl rfl rfl)<|e_pv 4 rfl rfl (zBa (z:=(((yi*wn):Nat):Int)) rfl rfl (w64 om))<|e_dm 5 rfl rfl rfl<|e_pv 6 rfl rfl (zv (z:=((((yi*wn)+xi):Nat):Int)) rfl rfl (w64 om))<|zza (x0:=(l.getD ((yi*wn)+xi) 0)) 7 rfl rfl kr kr 3 ((yi*wn)+xi) rfl Try.underlying22 sz3 rfl rfl rfl cbo rfl rfl (gD (d:=0) om) (fun b1 o2 hok3=> ?_)
 replace hok3:=ze.1 hok3
 refine e_u 8 rfl rfl (zp (j:=0) 0 ty3 rfl rfl rfl rfl)<|e_u 9 rfl rfl (zp (j:=0) 3 ty3 rfl rfl rfl rfl)<|e_pv 10 rfl rfl (zNa rfl rfl)<|e_pv 11 rfl rfl (zd rfl)<|zra kr<|zc<|zU ?_
 exact zO Try.results6 () trivial (zx rfl) rfl (ho:=oN) sN
theorem zWc:Con Try.prog 4 [] [] [] (Y:=Unit) (fun y=>True) (fun y=> .bool true) (fun y=>[]) (fun y=>[]):=by
 refine zC Try.func4 rfl rfl rfl (fun c=> ?_)
 show RunC _ _ _ _ _ [] [] []
 refine zf<|za<|e_p (zd rfl)<|zi<|zc<|zf<|za<|zwa rfl rfl (zt (enc:=fun z:Int=>[ya yb z]) (ok:=InK .i64) (h1:=fun _=>rfl) (h2:=fun _=>rfl) (k:=9) Try.underlying22 inf3 rfl dd dd dd (.c (x:=1) rfl rfl (fun _ _=>by exact ze.2 om) (.c (x:=1) rfl rfl (fun _ _=>by exact ze.2 om) (.c (x:=1) rfl rfl (fun _ _=>by exact ze.2 om) (.c (x:=1) rfl rfl (fun _ _=>by exact ze.2 om) (.c (x:=0) rfl rfl (fun _ _=>by exact ze.2 om) (.c (x:=1) rfl rfl (fun _ _=>by exact ze.2 om) (.c (x:=1) rfl rfl (fun _ _=>by exact ze.2 om) (.c (x:=1) rfl rfl (fun _ _=>by exact ze.2 om) (.c (x:=1) rfl rfl (fun _ _=>by exact ze.2 om) .n)))))))))) (fun b1 _=> ?_)
 refine e_p (zca zr24 rfl Try.underlying24 (.c sz3 (.c sz3 (.c sz3 (.c sz22 .n)))) (.c rfl (.c rfl (.c rfl (.c rfl .n)))) (.c rfl rfl rfl (.take .nil) (.c rfl rfl rfl (.skip (.take .nil)) (.c rfl rfl rfl (.s2 (.take .nil)) (.c rfl rfl rfl (.s2 (.skip (.take .nil))) .n)))))<|zua 0 rfl .z<|zFa rfl rfl (.c rfl (.c rfl .n)) ce8 (zcc (w:=3) (h:=3) (m:=1) (p:=some ⟨b1,0,none⟩) (n:=9) (cap:=9) (l:=[1,1,1,1,0,1,1,1,1]) (th:=1) (hn:=by first|exact rfl|assumption|omega|decide)) (.c (j:=0) rfl .n) ?_
 rintro z92 hz
 dsimp only [aq,nq,cq]
 replace hz:Fl.HolR 3 3 1 ([1,1,1,1,0,1,1,1,1]) 1 z92:=hz
 refine e_mv rfl<|e_p (zy rfl rfl)<|e_p (zy rfl rfl)<|e_p (zd rfl)<|e_p (zd rfl)<|zi<|zc<|zf<|za<|e_p (zca zr34 rfl Try.underlying34 (.c sz3 (.c sz3 (.c sz3 .n))) .n .n)<|e_p (zca zr34 rfl Try.underlying34 (.c sz3 (.c sz3 (.c sz3 .n))) (.c rfl .n) (.c rfl rfl rfl (.take .nil) .n))<|e_p (zca zr34 rfl Try.underlying34 (.c sz3 (.c sz3 (.c sz3 .n))) (.c rfl .n) (.c rfl rfl rfl (.skip (.take .nil)) .n))<|zwa rfl rfl (zt (enc:=fun z:Int×Int×Int=>[ya yb z.1,ya yb z.2.1,ya yb z.2.2]) (ok:=fun z=>InK .i64 z.1∧InK .i64 z.2.1∧InK .i64 z.2.2) (h1:=fun _=>rfl) (h2:=fun _=>rfl) (k:=3) Try.underlying29 inf34 rfl dd dd dd (.c (x:=(0,0,0)) rfl rfl (fun _ _=>by exact ⟨ze.2 (by first|omega|decide|(dsimp only;omega)),ze.2 (by first|omega|decide|(dsimp only;omega)),ze.2 (by first|omega|decide|(dsimp only;omega))⟩) (.c (x:=(1,0,0)) rfl rfl (fun _ _=>by exact ⟨ze.2 (by first|omega|decide|(dsimp only;omega)),ze.2 (by first|omega|decide|(dsimp only;omega)),ze.2 (by first|omega|decide|(dsimp only;omega))⟩) (.c (x:=(0,1,0)) rfl rfl (fun _ _=>by exact ⟨ze.2 (by first|omega|decide|(dsimp only;omega)),ze.2 (by first|omega|decide|(dsimp only;omega)),ze.2 (by first|omega|decide|(dsimp only;omega))⟩) .n)))) (fun b3 _=> ?_)
 refine e_p (zA zr35 rfl Try.underlying35 sz3 (.c rfl (.c rfl (.c rfl .n))) (.c rfl rfl rfl (.take .nil) (.c rfl rfl rfl (.skip (.take .nil)) (.c rfl rfl rfl (.s2 (.take .nil)) .n))))<|zwa rfl rfl (zt (enc:=fun z:Int×Int×Int=>[ya yb z.1,ya yb z.2.1,ya yb z.2.2]) (ok:=fun z=>InK .i64 z.1∧InK .i64 z.2.1∧InK .i64 z.2.2) (h1:=fun _=>rfl) (h2:=fun _=>rfl) (k:=1) Try.underlying30 inf35 rfl dd dd dd (.c (x:=(0,1,2)) rfl rfl (fun _ _=>by exact ⟨ze.2 (by first|omega|decide|(dsimp only;omega)),ze.2 (by first|omega|decide|(dsimp only;omega)),ze.2 (by first|omega|decide|(dsimp only;omega))⟩) .n)) (fun b4 _=> ?_)
 refine e_p (zca zr32 rfl Try.underlying32 (.c sz29 (.c sz30 .n)) (.c rfl (.c rfl .n)) (.c rfl rfl rfl (.take .nil) (.c rfl rfl rfl (.skip (.take .nil)) .n)))<|zua 1 rfl (.s .z)<|zua 0 rfl .z<|zia rfl rfl (.c rfl .n) ce9 (zec (pv:=some ⟨b3,0,none⟩) (nv:=3) (cv:=3) (V:=[(0,0,0),(1,0,0),(0,1,0)]) (pf:=some ⟨b4,0,none⟩) (nf:=1) (cf:=1) (F:=[(0,1,2)]) (hnv:=by first|exact rfl|assumption|omega|decide) (hnf:=by first|exact rfl|assumption|omega|decide)) (.c (j:=1) rfl (.c (j:=0) rfl .n))<|e_mv rfl<|e_p (zy rfl rfl)<|e_p (zy rfl rfl)<|e_p (zd rfl)<|e_p (zd rfl)<|zi<|zc<|zf ?_
 have hz1:=Te.ring_z hz
 have e5:(if Bl.rok 3 3 1 [1,1,1,1,0,1,1,1,1] then (if (0:Int)≤1∧(1:Int)≤65536 then (0:Int) else 2) else 1)=0:=Fl.ask0.2 Te.ring_ok
 rw [e5]
 refine za<|e_mv rfl<|e_p (zya rfl rfl)<|e_mv rfl<|e_mv rfl<|e_p (zya rfl rfl) ?_
 rw [show (decide (yj ([(0,0,0),(1,0,0),(0,1,0)]) ([(0,1,2)])=0))=true from by exact decide_eq_true Te.tri_c]
 refine e_p (zn rfl rfl)<|e_mv rfl<|e_mv rfl<|e_p (zya rfl rfl) ?_
 rw [show (decide (z92=1))=true from by exact decide_eq_true hz1]
 refine e_p (zn rfl rfl)<|e_mv rfl<|e_mv rfl<|e_p (zya rfl rfl) ?_
 rw [show (decide (yt ([(0,0,0),(1,0,0),(0,1,0)]) ([(0,1,2)])=1))=true from by exact decide_eq_true Te.tri_e]
 refine e_p (zn rfl rfl)<|e_p (zd rfl)<|zi<|zc<|zU ?_
 exact zO Try.results4 () trivial (zx rfl) rfl (ho:=oN) sN
end Go.Proofs.Ytpdbimfnhglhpaa.Sp
