/- Lemmas on the walk and plain lemmas that the claim of this folder uses; each states its own conditions. Lines were printed by a program of ours. -/
import Derived.Test.YtbiaimgafknkmaaGreatZ8C
set_option linter.unusedVariables false
set_option linter.unusedSimpArgs false
set_option linter.unusedSectionVars false
open Go.Proofs.Tryz renaming underlying23 → ya, prog → yb, underlying22 → yc, underlying55 → ye, underlying76 → yf, underlying48 → yg, underlying60 → yh, underlying28 → yi
open Go.Proofs.YtbiaimgafknkmaaGreat.Big renaming hq → yd, sgq → yj, digs → yk, raw → yl
namespace Go.Proofs.YtbiaimgafknkmaaGreat.Sp
open Go
set_option linter.unusedVariables false
def Wd.zz (u v:Wd):Prop:=u.s=false∧v.s=false∧u.n=0∧v.n=0
instance (u v:Wd):Decidable (Wd.zz u v):=inferInstanceAs (Decidable (_∧_))
def rQ:Rp Rat:=⟨4,Wd×Wd,fun _ w=>[w.1.b,w.1.l,w.2.b,w.2.l],fun g q w=>(qF true w.1 w.2 q).on g,fun _ _ _ _ h k=>(qF true _ _ _).mono _ _ h k,fun _ _=>rfl,fun _ _=>rfl⟩
theorem open_rQ {A:Fa} {q:Rat} {w1 w2:Wd} {R:List Fa}:∀g,Holds g (A :: okF rQ q (w1,w2) :: R)→Holds g (A :: qF true w1 w2 q :: R):=fun g ⟨h,a,r⟩=>⟨h,a,r⟩
def qo (y:Big.RQ):Option Rat:=if Big.qok y then some (Big.qv y) else none
def eF (u v:Wd) (x:Option Rat):Fa:=⟨fun g=>∃y:Big.RQ,u.raw g y.1∧v.raw g y.2∧x=qo y,fun _ _ h ⟨y,a,b,e⟩=>⟨y,Wd.raw_mono h a,Wd.raw_mono h b,e⟩⟩
def rE:Rp (Option Rat):=⟨4,Wd×Wd,fun _ w=>[w.1.b,w.1.l,w.2.b,w.2.l],fun g x w=>(eF w.1 w.2 x).on g,fun _ _ _ _ h k=>(eF _ _ _).mono _ _ h k,fun _ _=>rfl,fun _ _=>rfl⟩
theorem qo_v (y:Big.RQ):(qo y).getD 0=Big.qv y:=by
  unfold qo;split
  · rfl
  · rename_i h;rw [Big.qv_not h];rfl
theorem eF_q {g:Hp} {u v:Wd} {x:Option Rat} (h:(eF u v x).on g):(qF x.isSome u v (x.getD 0)).on g:=by
  obtain ⟨y,a,b,rfl⟩:=h
  refine ⟨y,a,b,(qo_v y).symm,fun e=> ?_⟩
  by_cases hk:Big.qok y
  · exact hk
  · unfold qo at e;rw [if_neg hk] at e;cases e
theorem qF_e {g:Hp} {u v:Wd} {q:Rat} (h:(qF true u v q).on g):(eF u v (some q)).on g:=by
  obtain ⟨y,a,b,e,k⟩:=h
  exact ⟨y,a,b,by unfold qo;rw [if_pos (k rfl),e]⟩
theorem Sl.re {α β:Type} {r:Rp α} {s:Rp β} {g:Hp} {p:Option Addr} {c:Nat} {l:List α} {f:α→β} (hz:r.sz=s.sz) (h:∀x γ,r.ok g x γ→∃δ,r.enc x γ=s.enc (f x) δ∧s.ok g (f x) δ) (k:Sl r g p c l):Sl s g p c (l.map f):=by
  refine ⟨by rw [List.length_map];exact k.1,k.2.1,k.2.2.1,fun i x e=> ?_⟩
  rw [List.getElem?_map] at e
  obtain ⟨x0,e0,rfl⟩:=Option.map_eq_some_iff.1 e
  obtain ⟨b,off,γ,e1,e2,e3⟩:=k.2.2.2 i x0 e0
  obtain ⟨δ,d1,d2⟩:=h x0 γ e3
  exact ⟨b,off,δ,e1,by rw [← hz,←d1];exact e2,d2⟩
theorem slF_QE {R:List Fa} {p:Option Addr} {c:Nat} {l:List Rat} (i:Nat) (hi:R[i]? =some (slF rQ p c l)):∀g,Holds g R→(slF rE p c (l.map some)).on g:=fun g h=>
  Sl.re (r:=rQ) (s:=rE) rfl (fun x γ k=>⟨γ,rfl,qF_e k⟩) (Holds.get i hi h)
theorem open_rE {A:Fa} {x:Option Rat} {w1 w2:Wd} {R:List Fa}:∀g,Holds g (A :: okF rE x (w1,w2) :: R)→Holds g (A :: qF x.isSome w1 w2 (x.getD 0) :: eF w1 w2 x :: R):=fun g ⟨h,a,r⟩=>⟨h,eF_q a,a,r⟩
theorem eF_wz (g:Hp):(eF wz wz none).on g:=⟨((false,[]),(false,[])),⟨rfl,rfl,by decide,Sl.nil _ _⟩,⟨rfl,rfl,by decide,Sl.nil _ _⟩,by unfold qo;rw [if_neg (by decide +kernel)]⟩
section
variable {P : Program} {O : List As} {R : List Fa} {f : Nat} {u v : Wd}
theorem eF_weak (i:Nat) {x:Option Rat} (hi:R[i]? =some (eF u v x)):∀g,Holds g R→(qF x.isSome u v (x.getD 0)).on g:=fun g h=>eF_q (Holds.get i hi h)
end
end Go.Proofs.YtbiaimgafknkmaaGreat.Sp
namespace Go.Proofs.YtbiaimgafknkmaaGreat.Sp
open Go
theorem addQE {R:List Fa} {p:Option Addr} {c:Nat} {l:List Rat} (i:Nat) (hi:R[i]? =some (slF rQ p c l)):∀g,Holds g R→Holds g (slF rE p c (l.map some) :: R):=fun g h=>⟨slF_QE i hi g h,h⟩
theorem addQe {R:List Fa} {u v:Wd} {q:Rat} (i:Nat) (hi:R[i]? =some (qF true u v q)):∀g,Holds g R→Holds g (eF u v (some q) :: R):=fun g h=>⟨qF_e (Holds.get i hi h),h⟩
section
variable {P : Program} {n : Sz} {m : Fm} {O : List As} {R : List Fa} {d : Option Tmp} {ty : TypeId} {ps : String} {af : Array Edge} {gd : Option (Nat × Bool)}
theorem zAe {t e:TypeId} {sz:Nat} {p:Option Addr} {len cap hi:Nat} {k1 k2:IntKind} {w:World} (hu:P.underlying t=some (.slice e)) (ht:(P.info? e).map (·.size)=some sz) (hhc:hi≤cap):
    (Instr.sliceAt t (.slice p len cap) none (some (.int k1 (hi:Int))) (some (.int k2 (hi:Int)))).run P w= .ok (.slice p hi hi) w:=by
  have a2:(hi:Int)≤(cap:Int):=by omega
  have h0:p.map (·.add 0)=p:=by cases p <;> simp [Addr.add]
  simp [Instr.sliceAt,Instr.slice,Instr.sliceBounds,Instr.sliceBound,asIntOf,run_underlying hu,zya ht,hhc,h0]
theorem zEd {t e:TypeId} {x y z:Operand} {k1 k2:IntKind} {sz hi k cap:Nat} {p:Option Addr} (hu:P.underlying t=some (.slice e)) (ht:(P.info? e).map (·.size)=some sz) (h0:evo m x=some (.slice p k cap)) (h1:evo m y=some (.int k1 (hi:Int))) (h2:evo m z=some (.int k2 (hi:Int))) (hhc:hi≤cap):
    PV P n ⟨d,.slice t x none (some y) (some z),ty,ps,af,gd⟩ m (.slice p hi hi):=fun a w f=>by
  have:=zAe (P:=P) (p:=p) (len:=k) (w:=w) (k1:=k1) (k2:=k2) hu ht hhc
  simp only [execOp,f.ev h0,f.ev h1,f.ev h2,Option.map_none,Option.map_some,Sem.run_bind,this,Result.andThen_ok,Sem.run_pure]
theorem Sl.take3 {α:Type} {r:Rp α} {g:Hp} {p:Option Addr} {cap:Nat} {xs:List α} (s:Sl r g p cap xs) (n:Nat) (hn:n≤xs.length):Sl r g p n (xs.take n):=by
  obtain ⟨h1,h2,h3,h4⟩:=s
  refine ⟨by rw [List.length_take];omega,by omega,fun e=>by have:=h3 e;omega,fun i x e=> ?_⟩
  rw [List.getElem?_take] at e
  by_cases h:i<n
  · rw [if_pos h] at e;exact h4 i x e
  · rw [if_neg h] at e;cases e
theorem zFd {α:Type} {r:Rp α} {p:Option Addr} {cap:Nat} {xs:List α} (i:Nat) (hi:R[i]? =some (slF r p cap xs)) (n:Nat) (hn:n≤xs.length):∀g,Holds g R→Holds g (slF r p n (xs.take n) :: R):=fun g h=>⟨Sl.take3 (Holds.get i hi h:Sl r g p cap xs) n hn,h⟩
end
end Go.Proofs.YtbiaimgafknkmaaGreat.Sp
namespace Go.Proofs.YtbiaimgafknkmaaGreat.Po
def vals (l:List (Option Rat)):List Rat:=l.map (·.getD 0)
def gen (g:Nat→Rat):Nat→List Rat
  |0=>[]
  |n+1=>gen g n++[g n]
def tn (l:List Rat):Nat→Nat
  |0=>0
  |n+1=>if l.getD n 0=0 then tn l n else n+1
def cl (l:List Rat):List Rat:=l.take (tn l l.length)
theorem gen_len (g:Nat→Rat):∀n,(gen g n).length=n
  |0=>rfl
  |n+1=>by simp [gen,gen_len g n]
theorem gen_get (g:Nat→Rat):∀n i,(gen g n).getD i 0=if i<n then g i else 0
  |0,i=>by simp [gen]
  |n+1,i=>by
    simp only [gen]
    by_cases h:i<n
    · rw [List.getD_eq_getElem?_getD,List.getElem?_append_left (by rw [gen_len];exact h),←List.getD_eq_getElem?_getD,gen_get g n i,if_pos h,if_pos (by omega)]
    · rw [List.getD_eq_getElem?_getD, List.getElem?_append_right (by rw [gen_len]; omega), gen_len]
      by_cases h1:i=n
      · subst h1;simp
      · rw [if_neg (by omega)]
        have:1≤i - n:=by omega
        obtain ⟨j,hj⟩:∃j,i - n=j+1:=⟨i - n - 1,by omega⟩
        rw [hj];simp
theorem tn_le (l:List Rat):∀n,tn l n≤n
  |0=>Nat.le_refl 0
  |n+1=>by
    simp only [tn]
    split
    · have:=tn_le l n;omega
    · omega
theorem tn_zero (l:List Rat):∀n i,tn l n≤i→i<n→l.getD i 0=0
  |0,i,_,h=>by omega
  |n+1,i,h,h2=>by
    simp only [tn] at h
    split at h
    · rename_i h3
      by_cases e:i=n
      · subst e;exact h3
      · exact tn_zero l n i h (by omega)
    · omega
theorem tn_last (l:List Rat):∀n,0<tn l n→l.getD (tn l n - 1) 0≠0
  |0,h=>by simp [tn] at h
  |n+1,h=>by
    simp only [tn] at h ⊢
    split
    · rename_i h3;rw [if_pos h3] at h;exact tn_last l n h
    · rename_i h3;simpa using h3
theorem cl_len (l:List Rat):(cl l).length=tn l l.length:=by
  unfold cl
  rw [List.length_take]
  have:=tn_le l l.length
  omega
theorem cl_get (l:List Rat) (i:Nat):(cl l).getD i 0=l.getD i 0:=by
  by_cases h:i<tn l l.length
  · unfold cl
    rw [List.getD_eq_getElem?_getD,List.getElem?_take,if_pos h,←List.getD_eq_getElem?_getD]
  · have h1:(cl l).getD i 0=0:=by
      rw [List.getD_eq_getElem?_getD,List.getElem?_eq_none (by rw [cl_len];omega)];rfl
    rw [h1]
    by_cases h2:i<l.length
    · exact (tn_zero l _ i (by omega) h2).symm
    · rw [List.getD_eq_getElem?_getD,List.getElem?_eq_none (by omega)];rfl
theorem cl_last {l:List Rat} (h:cl l≠[]):(cl l).getD ((cl l).length - 1) 0≠0:=by
  have hp:0<tn l l.length:=by rw [← cl_len];exact List.length_pos_iff.2 h
  rw [cl_get,cl_len]
  exact tn_last l _ hp
theorem cl_ext {l m:List Rat} (h:∀i,l.getD i 0=m.getD i 0):cl l=cl m:=by
  have hlen:(cl l).length=(cl m).length:=by
    have aux:∀{l m:List Rat},(∀i,l.getD i 0=m.getD i 0)→(cl l).length≤(cl m).length:=by
      intro l m h
      by_cases hl:cl l=[]
      · rw [hl];exact Nat.zero_le _
      · have h1 := cl_last hl
        rw [cl_get,h,←cl_get m] at h1
        refine Decidable.byContradiction fun hlt=>h1 ?_
        rw [List.getD_eq_getElem?_getD,List.getElem?_eq_none (by omega)];rfl
    exact Nat.le_antisymm (aux h) (aux fun i=>(h i).symm)
  refine List.ext_getElem? fun i=> ?_
  by_cases hi:i<(cl l).length
  · have e := cl_get l i
    rw [h i,←cl_get m i] at e
    rw [List.getD_eq_getElem?_getD,List.getD_eq_getElem?_getD,List.getElem?_eq_getElem hi,List.getElem?_eq_getElem (by omega)] at e
    rw [List.getElem?_eq_getElem hi,List.getElem?_eq_getElem (by omega)]
    exact congrArg some e
  · rw [List.getElem?_eq_none (by omega),List.getElem?_eq_none (by omega)]
def cv (p q:List Rat) (k lo:Nat):Nat→Rat
  |0=>0
  |n+1=>cv p q k lo n+p.getD (lo+n) 0*q.getD (k - (lo+n)) 0
def ev (x:Rat):List Rat→Rat
  |[]=>0
  |a :: l=>ev x l*x+a
def add (p q:List Rat):List Rat:=cl (gen (fun i=>p.getD i 0+q.getD i 0) (max p.length q.length))
def sub (p q:List Rat):List Rat:=cl (gen (fun i=>p.getD i 0 - q.getD i 0) (max p.length q.length))
def mulC (p q:List Rat):List Rat:=if p=[]∨q=[] then [] else cl (gen (fun k=>cv p q k (k+1 - q.length) (min k (p.length - 1)+1 - (k+1 - q.length))) (p.length+q.length - 1))
def mul (p q:List Rat):List Rat:=mulC (cl p) (cl q)
def der (p:List Rat):List Rat:=cl (gen (fun i=>((i+1:Nat):Int)*p.getD (i+1) 0) (p.length - 1))
end Go.Proofs.YtbiaimgafknkmaaGreat.Po
namespace Go.Proofs.YtbiaimgafknkmaaGreat.Po
theorem gD0 {l:List Rat} {i:Nat} (h:l.length≤i):l.getD i 0=0:=by
  rw [List.getD_eq_getElem?_getD,List.getElem?_eq_none h];rfl
def co (f g:Nat→Rat) (k:Nat):Nat→Rat
  |0=>0
  |n+1=>co f g k n+f n*g (k - n)
def C (f g:Nat→Rat) (k:Nat):Rat:=co f g k (k+1)
theorem co_congr {f g f' g':Nat→Rat} {k:Nat} (h:∀i,f i=f' i) (h':∀i,g i=g' i):∀n,co f g k n=co f' g' k n
  |0=>rfl
  |n+1=>by simp only [co];rw [co_congr h h' n,h,h']
theorem C_congr {f g f' g':Nat→Rat} (k:Nat) (h:∀i,f i=f' i) (h':∀i,g i=g' i):C f g k=C f' g' k:=co_congr h h' _
theorem cv_add (p q:List Rat) (k lo a:Nat):∀b,cv p q k lo (a+b)=cv p q k lo a+cv p q k (lo+a) b
  |0=>by
    show cv p q k lo a=cv p q k lo a+0
    grind
  |b+1=>by
    show cv p q k lo (a+b)+p.getD (lo+(a+b)) 0*q.getD (k - (lo+(a+b))) 0=cv p q k lo a+(cv p q k (lo+a) b+p.getD (lo+a+b) 0*q.getD (k - (lo+a+b)) 0)
    rw [cv_add p q k lo a b,Nat.add_assoc lo a b]
    grind
theorem cv_zero {p q:List Rat} {k lo:Nat}:∀{n},(∀j,lo≤j→j<lo+n→p.getD j 0*q.getD (k - j) 0=0)→cv p q k lo n=0
  |0,_=>rfl
  |n+1,h=>by
    show cv p q k lo n+p.getD (lo+n) 0*q.getD (k - (lo+n)) 0=0
    rw [cv_zero fun j h1 h2=>h j h1 (by omega),h (lo+n) (by omega) (by omega)]
    grind
theorem cv_co (p q:List Rat) (k:Nat):∀n,cv p q k 0 n=co (p.getD · 0) (q.getD · 0) k n
  |0=>rfl
  |n+1=>by
    show cv p q k 0 n+p.getD (0+n) 0*q.getD (k - (0+n)) 0=_
    rw [cv_co p q k n,Nat.zero_add]
    rfl
theorem cv_full (p q:List Rat) (k:Nat):cv p q k (k+1 - q.length) (min k (p.length - 1)+1 - (k+1 - q.length))=C (p.getD · 0) (q.getD · 0) k:=by
  show _=co _ _ k (k+1)
  rw [← cv_co]
  by_cases hp:p.length=0
  · have hz : ∀ lo n, cv p q k lo n = 0 := fun lo n => cv_zero fun j _ _ => by rw [gD0 (l := p) (by omega)]; grind
    rw [hz,hz]
  · generalize hlo : k + 1 - q.length = lo
    generalize hn:min k (p.length - 1)+1 - lo=n
    have h1:cv p q k 0 lo=0:=cv_zero fun j _ hj=>by rw [gD0 (l:=q) (i:=k - j) (by omega)];grind
    by_cases hle:lo+n≤k+1
    · have e : k + 1 = lo + (n + (k + 1 - (lo + n))) := by omega
      rw [e,cv_add p q k 0 lo,cv_add p q k (0+lo) n,h1,Nat.zero_add]
      have h2:cv p q k (lo+n) (k+1 - (lo+n))=0:=cv_zero fun j h2 h3=>by rw [gD0 (l:=p) (i:=j) (by omega)];grind
      rw [h2]
      grind
    · exfalso;omega
theorem C_high {p q:List Rat} {k:Nat} (h:p.length+q.length≤k+1):C (p.getD · 0) (q.getD · 0) k=0:=by
  show co _ _ k (k+1)=0
  rw [← cv_co]
  exact cv_zero fun j _ hj=>by
    by_cases hp:j<p.length
    · rw [gD0 (l:=q) (i:=k - j) (by omega)];grind
    · rw [gD0 (l:=p) (i:=j) (by omega)];grind
def mc (p q:List Rat):List Rat:=gen (fun k=>C (p.getD · 0) (q.getD · 0) k) (p.length+q.length - 1)
theorem mc_get (p q:List Rat) (k:Nat):(mc p q).getD k 0=C (p.getD · 0) (q.getD · 0) k:=by
  unfold mc
  rw [gen_get]
  split
  · rfl
  · exact (C_high (by omega)).symm
theorem mulC_get (p q:List Rat) (k:Nat):(mulC p q).getD k 0=C (p.getD · 0) (q.getD · 0) k:=by
  unfold mulC
  split
  · rename_i h
    have:C (p.getD · 0) (q.getD · 0) k=0:=by
      show co _ _ k (k+1)=0
      rw [← cv_co]
      refine cv_zero fun j _ _=> ?_
      rcases h with rfl|rfl
      · simp
      · simp
    rw [this];rfl
  · rw [cl_get, gen_get]
    split
    · exact cv_full p q k
    · exact (C_high (by omega)).symm
theorem mul_get (p q:List Rat) (k:Nat):(mul p q).getD k 0=C (p.getD · 0) (q.getD · 0) k:=by
  unfold mul
  rw [mulC_get]
  exact C_congr k (cl_get p) (cl_get q)
theorem cl_cl (l:List Rat):cl (cl l)=cl l:=cl_ext (cl_get l)
theorem mul_cl (p q:List Rat):cl (mul p q)=mul p q:=by
  unfold mul mulC
  split
  · rfl
  · exact cl_cl _
theorem mul_mc (p q:List Rat):cl (mc p q)=mul p q:=by
  rw [← mul_cl]
  exact cl_ext fun i=>by rw [mc_get,mul_get]
theorem add_get (p q:List Rat) (k:Nat):(add p q).getD k 0=p.getD k 0+q.getD k 0:=by
  unfold add
  rw [cl_get,gen_get]
  split
  · rfl
  · rw [gD0 (l:=p) (by omega),gD0 (l:=q) (by omega)];grind
theorem sub_get (p q:List Rat) (k:Nat):(sub p q).getD k 0=p.getD k 0 - q.getD k 0:=by
  unfold sub
  rw [cl_get,gen_get]
  split
  · rfl
  · rw [gD0 (l:=p) (by omega),gD0 (l:=q) (by omega)];grind
theorem add_cl (p q:List Rat):cl (add p q)=add p q:=cl_cl _
theorem sub_cl (p q:List Rat):cl (sub p q)=sub p q:=cl_cl _
theorem der_cl (p:List Rat):cl (der p)=der p:=cl_cl _
theorem zJa {p q:List Rat} (hp:cl p=p) (hq:cl q=q) (h:∀i,p.getD i 0=q.getD i 0):p=q:=by
  rw [← hp,←hq];exact cl_ext h
theorem co_split (f g:Nat→Rat) (k:Nat):∀n,co f g k (n+1)=f 0*g k+co (fun i=>f (i+1)) (fun i=>g i) (k - 1) n
  |0=>by simp [co];grind
  |n+1=>by
    show co f g k (n+1)+f (n+1)*g (k - (n+1))=f 0*g k+(co (fun i=>f (i+1)) (fun i=>g i) (k - 1) n+f (n+1)*g (k - 1 - n))
    rw [co_split f g k n,show k - (n+1)=k - 1 - n by omega]
    grind
theorem C_zero (f g:Nat→Rat):C f g 0=f 0*g 0:=by simp [C,co];grind
theorem C_succ (f g:Nat→Rat) (k:Nat):C f g (k+1)=f 0*g (k+1)+C (fun i=>f (i+1)) g k:=co_split f g (k+1) (k+1)
theorem C_last (f g:Nat→Rat) (k:Nat):C f g (k+1)=C f (fun i=>g (i+1)) k+f (k+1)*g 0:=by
  show co f g (k+1) (k+1)+f (k+1)*g (k+1 - (k+1))=co f (fun i=>g (i+1)) k (k+1)+f (k+1)*g 0
  rw [Nat.sub_self]
  have:∀n,n≤k+1→co f g (k+1) n=co f (fun i=>g (i+1)) k n:=by
    intro n
    induction n with
    |zero=>intro _;rfl
    |succ n ih=>intro h;simp only [co];rw [ih (by omega),show k+1 - n=k - n+1 by omega]
  rw [this (k+1) (Nat.le_refl _)]
theorem C_comm (f g:Nat→Rat):∀k,C f g k=C g f k:=by
  intro k
  induction k generalizing f g with
  |zero=>rw [C_zero,C_zero];grind
  |succ k ih=>rw [C_succ,C_last g f,ih];grind
theorem C_add (f f' g:Nat→Rat) (k:Nat):C (fun i=>f i+f' i) g k=C f g k+C f' g k:=by
  have:∀n,co (fun i=>f i+f' i) g k n=co f g k n+co f' g k n:=by
    intro n
    induction n with
    |zero=>simp [co];grind
    |succ n ih=>simp only [co];rw [ih];grind
  exact this _
theorem mul_comm' (p q:List Rat):mul p q=mul q p:=zJa (mul_cl _ _) (mul_cl _ _) fun i=>by rw [mul_get,mul_get,C_comm]
theorem ev_zero {x:Rat}:∀{l:List Rat},(∀i,l.getD i 0=0)→ev x l=0
  |[],_=>rfl
  |a :: l,h=>by
    have h0:a=0:=h 0
    show ev x l*x+a=0
    rw [ev_zero fun i=>h (i+1),h0];grind
theorem ev_ext {x:Rat}:∀{l m:List Rat},(∀i,l.getD i 0=m.getD i 0)→ev x l=ev x m
  |[],m,h=>(ev_zero fun i=>(h i).symm).symm
  |a :: l,[],h=>ev_zero h
  |a :: l,b :: m,h=>by
    have h0:a=b:=h 0
    show ev x l*x+a=ev x m*x+b
    rw [ev_ext (l:=l) (m:=m) fun i=>h (i+1),h0]
theorem ev_cl (x:Rat) (l:List Rat):ev x (cl l)=ev x l:=ev_ext (cl_get l)
def zipA:List Rat→List Rat→List Rat
  |[],q=>q
  |p,[]=>p
  |a :: p,b :: q=>(a+b) :: zipA p q
theorem zipA_get:∀(p q:List Rat) (i:Nat),(zipA p q).getD i 0=p.getD i 0+q.getD i 0
  |[],q,i=>by simp [zipA];grind
  |a :: p,[],i=>by simp [zipA];grind
  |a :: p,b :: q,0=>rfl
  |a :: p,b :: q,i+1=>zipA_get p q i
theorem zipA_ev (x:Rat):∀p q:List Rat,ev x (zipA p q)=ev x p+ev x q
  |[],q=>by simp [zipA,ev];grind
  |a :: p,[]=>by simp [zipA,ev];grind
  |a :: p,b :: q=>by
    show ev x (zipA p q)*x+(a+b)=(ev x p*x+a)+(ev x q*x+b)
    rw [zipA_ev x p q];grind
theorem ev_add (x:Rat) (p q:List Rat):ev x (add p q)=ev x p+ev x q:=by
  rw [← zipA_ev];exact ev_ext fun i=>by rw [add_get,zipA_get]
theorem ev_scale (x a:Rat):∀q:List Rat,ev x (q.map (a* ·))=a*ev x q
  |[]=>by simp [ev]
  |b :: q=>by
    show ev x (q.map (a* ·))*x+a*b=a*(ev x q*x+b)
    rw [ev_scale x a q];grind
theorem map_get (a:Rat) (q:List Rat) (i:Nat):(q.map (a* ·)).getD i 0=a*q.getD i 0:=by
  by_cases h:i<q.length
  · rw [List.getD_eq_getElem?_getD,List.getD_eq_getElem?_getD,List.getElem?_map,List.getElem?_eq_getElem h];rfl
  · rw [gD0 (by rw [List.length_map];omega),gD0 (by omega)];grind
def mL:List Rat→List Rat→List Rat
  |[],_=>[]
  |a :: p,q=>zipA (q.map (a* ·)) (0 :: mL p q)
theorem mL_ev (x:Rat) (q:List Rat):∀p:List Rat,ev x (mL p q)=ev x p*ev x q
  |[]=>by simp [mL,ev]
  |a :: p=>by
    show ev x (zipA (q.map (a* ·)) (0 :: mL p q))=(ev x p*x+a)*ev x q
    rw [zipA_ev,ev_scale]
    show a*ev x q+(ev x (mL p q)*x+0)=_
    rw [mL_ev x q p];grind
theorem C_nil (q:List Rat) (k:Nat):C (([]:List Rat).getD · 0) (q.getD · 0) k=0:=by
  show co _ _ k (k+1)=0
  rw [← cv_co]
  exact cv_zero fun j _ _=>by rw [gD0 (l:=[]) (Nat.zero_le _)];grind
theorem mL_get (q:List Rat):∀(p:List Rat) (k:Nat),(mL p q).getD k 0=C (p.getD · 0) (q.getD · 0) k
  |[],k=>by
    have:C ([].getD · 0) (q.getD · 0) k=0:=C_nil q k
    rw [this];rfl
  |a :: p,0=>by
    show (zipA (q.map (a* ·)) (0 :: mL p q)).getD 0 0=_
    rw [zipA_get,map_get,C_zero]
    show a*q.getD 0 0+0=a*q.getD 0 0
    grind
  |a :: p,k+1=>by
    show (zipA (q.map (a* ·)) (0 :: mL p q)).getD (k+1) 0=_
    rw [zipA_get,map_get,C_succ]
    show a*q.getD (k+1) 0+(mL p q).getD k 0=a*q.getD (k+1) 0+C (p.getD · 0) (q.getD · 0) k
    rw [mL_get q p k]
theorem ev_mul (x:Rat) (p q:List Rat):ev x (mul p q)=ev x p*ev x q:=by
  rw [← mL_ev];exact ev_ext fun i=>by rw [mul_get,mL_get]
theorem der_get (p:List Rat) (i:Nat):(der p).getD i 0=((i+1:Nat):Int)*p.getD (i+1) 0:=by
  unfold der
  rw [cl_get,gen_get]
  split
  · rfl
  · rw [gD0 (l:=p) (by omega)];grind
def D (f:Nat→Rat) (i:Nat):Rat:=((i+1:Nat):Int)*f (i+1)
theorem cast_s (i:Nat):(((i+1:Nat):Int):Rat)=((i:Int):Rat)+1:=by
  rw [show ((i+1:Nat):Int)=(i:Int)+1 by omega,Rat.intCast_add];rfl
theorem C_D:∀(k:Nat) (f g:Nat→Rat),(((k+1:Nat):Int):Rat)*C f g (k+1)=C (D f) g k+C f (D g) k
  |0,f,g=>by
    rw [C_succ,C_zero,C_zero,C_zero]
    simp only [D]
    rw [cast_s]
    simp
    grind
  |k+1,f,g=>by
    have ih:=C_D k (fun i=>f (i+1)) g
    rw [C_succ f g (k+1),C_succ f (D g) k]
    have e:C (D f) g (k+1)=C (fun i=>f (i+1)) g (k+1)+C (fun i=>((i:Int):Rat)*f (i+1)) g (k+1):=by
      rw [← C_add];exact C_congr _ (fun i=>by simp only [D];rw [cast_s];grind) (fun _=>rfl)
    have e2:C (fun i=>((i:Int):Rat)*f (i+1)) g (k+1)=C (D fun i=>f (i+1)) g k:=by
      rw [C_succ]
      have:((0:Nat):Int)*f (0+1)*g (k+1)=0:=by simp
      rw [this]
      have e3:C (fun i=>(((i+1:Nat):Int):Rat)*f (i+1+1)) g k=C (D fun i=>f (i+1)) g k:=rfl
      rw [e3];grind
    rw [e,e2]
    simp only [D] at ih ⊢
    rw [cast_s (k+1)]
    grind
theorem der_mul (p q:List Rat):der (mul p q)=add (mul (der p) q) (mul p (der q)):=zJa (der_cl _) (add_cl _ _) fun i=>by
  rw [der_get,add_get,mul_get,mul_get,mul_get,C_D]
  congr 1
  · exact C_congr i (fun j=>(der_get p j).symm) (fun _=>rfl)
  · exact C_congr i (fun _=>rfl) (fun j=>(der_get q j).symm)
end Go.Proofs.YtbiaimgafknkmaaGreat.Po
namespace Go.Proofs.YtbiaimgafknkmaaGreat.Po
open Go.Proofs.YtbiaimgafknkmaaGreat.Big
def mono (s:Nat) (k:Rat):List Rat:=gen (fun i=>if i=s then k else 0) (s+1)
def lead (l:List Rat):Rat:=l.getD (l.length - 1) 0
def dt (q r:List Rat):List Rat:=mono (r.length - q.length) (lead r / lead q)
def dv (q:List Rat):Nat→List Rat→List Rat→List Rat×List Rat
  |0,a,r=>(a,r)
  |n+1,a,r=>if r.length<q.length then (a,r) else dv q n (add a (dt q r)) (sub r (mul (dt q r) q))
theorem mono_get (s:Nat) (k:Rat) (i:Nat):(mono s k).getD i 0=if i=s then k else 0:=by
  unfold mono
  rw [gen_get]
  by_cases h:i=s
  · rw [if_pos (by omega)]
  · rw [if_neg h]
    split
    · rfl
    · rfl
theorem co_mono (s:Nat) (k:Rat) (g:Nat→Rat) (i:Nat):∀n,co (fun j=>if j=s then k else 0) g i n=if s<n then k*g (i - s) else 0
  |0=>by simp [co]
  |n+1=>by
    simp only [co]
    rw [co_mono s k g i n]
    by_cases h:s<n
    · rw [if_pos h,if_neg (by omega),if_pos (by omega)];grind
    · rw [if_neg h]
      by_cases h1:n=s
      · subst h1;rw [if_pos rfl,if_pos (by omega)];grind
      · rw [if_neg h1,if_neg (by omega)];grind
theorem C_mono (s:Nat) (k:Rat) (q:List Rat) (i:Nat):C ((mono s k).getD · 0) (q.getD · 0) i=if s≤i then k*q.getD (i - s) 0 else 0:=by
  rw [C_congr i (mono_get s k) (fun _=>rfl)]
  show co _ _ i (i+1)=_
  rw [co_mono]
  by_cases h:s≤i
  · rw [if_pos h,if_pos (by omega)]
  · rw [if_neg h,if_neg (by omega)]
theorem cl_le {l:List Rat} {m:Nat} (h:∀i,m≤i→l.getD i 0=0):(cl l).length≤m:=by
  refine Decidable.byContradiction fun hlt=> ?_
  have hne:cl l≠[]:=fun e=>by rw [e] at hlt;exact hlt (Nat.zero_le _)
  have h1:=cl_last hne
  rw [cl_get] at h1
  exact h1 (h _ (by omega))
theorem lead_ne {q:List Rat} (hq:cl q=q) (h:q≠[]):lead q≠0:=by
  have:=cl_last (l:=q) (by rw [hq];exact h)
  rw [hq] at this
  exact this
theorem dt_less {q r:List Rat} (hq:cl q=q) (h:q≠[]) (hl:q.length≤r.length):(sub r (mul (dt q r) q)).length<r.length:=by
  have hql:0<q.length:=List.length_pos_iff.2 h
  have:(sub r (mul (dt q r) q)).length≤r.length - 1:=by
    rw [← sub_cl]
    refine cl_le fun i hi=> ?_
    rw [sub_get,mul_get]
    unfold dt
    rw [C_mono]
    by_cases h1:i=r.length - 1
    · subst h1
      rw [if_pos (by omega),show r.length - 1 - (r.length - q.length)=q.length - 1 by omega]
      show lead r - lead r / lead q*lead q=0
      rw [Rat.div_mul_cancel (lead_ne hq h)]
      grind
    · rw [gD0 (l := r) (by omega)]
      split
      · rw [gD0 (l:=q) (by omega)];grind
      · grind
  omega
theorem dv_spec {q:List Rat} (hq:cl q=q) (h:q≠[]):∀(n:Nat) (a r:List Rat),r.length≤n→cl r=r→cl a=a→
    (dv q n a r).2.length<q.length∧add (mul (dv q n a r).1 q) (dv q n a r).2=add (mul a q) r∧cl (dv q n a r).2=(dv q n a r).2∧cl (dv q n a r).1=(dv q n a r).1
  |0,a,r,hn,hr,ha=>⟨by have:=List.length_pos_iff.2 h;show r.length<q.length;omega,rfl,hr,ha⟩
  |n+1,a,r,hn,hr,ha=>by
    unfold dv
    split
    · rename_i h1;exact ⟨h1,rfl,hr,ha⟩
    · rename_i h1
      have hlt:=dt_less (r:=r) hq h (by omega)
      obtain ⟨g1,g2,g3,g4⟩:=dv_spec hq h n (add a (dt q r)) (sub r (mul (dt q r) q)) (by omega) (sub_cl _ _) (add_cl _ _)
      refine ⟨g1,g2.trans ?_,g3,g4⟩
      refine zJa (add_cl _ _) (add_cl _ _) fun i=> ?_
      rw [add_get,add_get,mul_get,mul_get,sub_get,mul_get]
      have e:C ((add a (dt q r)).getD · 0) (q.getD · 0) i=C (a.getD · 0) (q.getD · 0) i+C ((dt q r).getD · 0) (q.getD · 0) i:=by
        rw [← C_add];exact C_congr i (add_get a _) (fun _=>rfl)
      rw [e]
      grind
def divp (p q:List Rat):List Rat×List Rat:=dv (cl q) (cl p).length [] (cl p)
theorem mul_nil (q:List Rat):mul [] q=[]:=by
  unfold mul mulC
  rw [if_pos (.inl rfl)]
theorem add_nil (r:List Rat) (h:cl r=r):add [] r=r:=zJa (add_cl _ _) h fun i=>by
  rw [add_get];simp;grind
theorem divp_spec {p q:List Rat} (h:cl q≠[]):(divp p q).2.length<(cl q).length∧add (mul (divp p q).1 (cl q)) (divp p q).2=cl p:=by
  obtain ⟨h1,h2,-,-⟩:=dv_spec (cl_cl q) h (cl p).length [] (cl p) (Nat.le_refl _) (cl_cl p) rfl
  exact ⟨h1,h2.trans (by rw [mul_nil,add_nil _ (cl_cl p)])⟩
def bd (K:Nat) (l:List Rat):Prop:=∀i,hq (l.getD i 0)≤K
theorem bd_cl {K:Nat} {l:List Rat} (h:bd K l):bd K (cl l):=fun i=>by rw [cl_get];exact h i
theorem bd_mono {K L:Nat} {l:List Rat} (h:bd K l) (hk:K≤L):bd L l:=fun i=>Nat.le_trans (h i) hk
theorem cv_mono {p q:List Rat} {s:Nat} {k0:Rat} (hp:∀i,p.getD i 0=if i=s then k0 else 0) (k lo:Nat):∀n,cv p q k lo n=if lo≤s∧s<lo+n then k0*q.getD (k - s) 0 else 0
  |0=>by rw [if_neg (by omega)];rfl
  |n+1=>by
    show cv p q k lo n+p.getD (lo+n) 0*q.getD (k - (lo+n)) 0=_
    rw [cv_mono hp k lo n,hp]
    by_cases h:lo+n=s
    · subst h;rw [if_neg (by omega),if_pos rfl,if_pos (by omega)];grind
    · rw [if_neg h]
      by_cases h1:lo≤s∧s<lo+n
      · rw [if_pos h1,if_pos (by omega)];grind
      · rw [if_neg h1,if_neg (by omega)];grind
theorem cv_mono_hq {p q:List Rat} {s K L:Nat} {k0:Rat} (hp:∀i,p.getD i 0=if i=s then k0 else 0) (hk:hq k0≤K) (h2:bd L q) (k lo n:Nat):hq (cv p q k lo n)≤K+L:=by
  rw [cv_mono hp]
  split
  · have := hq_mul k0 (q.getD (k - s) 0)
    have:=h2 (k - s)
    omega
  · rw [hq_zero];have:=hq_pos k0;omega
theorem ev_hq {K L:Nat} {x:Rat} (hx:hq x≤L):∀{l:List Rat},bd K l→hq (ev x l)≤1+l.length*(K+L+1)
  |[],_=>by show hq 0≤_;rw [hq_zero];omega
  |a :: l,h=>by
    show hq (ev x l*x+a)≤_
    have e1:=hq_add (ev x l*x) a
    have e2:=hq_mul (ev x l) x
    have e3:=ev_hq hx (l:=l) fun i=>h (i+1)
    have e4:hq a≤K:=h 0
    rw [List.length_cons,Nat.succ_mul]
    omega
theorem lead_hq {K:Nat} {l:List Rat} (h:bd K l):hq (lead l)≤K:=h _
theorem dt_bd {K L:Nat} {q r:List Rat} (hr:bd K r) (hq':bd L q):bd (K+L) (dt q r):=fun i=>by
  unfold dt
  rw [mono_get]
  split
  · by_cases h0 : lead q = 0
    · rw [h0, show lead r / 0 = 0 by rw [Rat.div_def, Rat.inv_zero, Rat.mul_zero], hq_zero]
      have:=hq_pos (lead r);have:=lead_hq hr;omega
    · have := hq_div (lead r) h0
      have:=lead_hq hr
      have:=lead_hq hq'
      omega
  · rw [hq_zero];have:=hq_pos (lead r);have:=lead_hq hr;omega
theorem mul_dt_bd {K L:Nat} {q r:List Rat} (hr:bd K r) (hq':bd L q):bd (K+L+L) (mul (dt q r) q):=fun i=>by
  rw [mul_get]
  unfold dt
  rw [C_mono]
  have hd:=dt_bd hr hq' (r.length - q.length)
  unfold dt at hd
  rw [mono_get,if_pos rfl] at hd
  split
  · have := hq_mul (lead r / lead q) (q.getD (i - (r.length - q.length)) 0)
    have:=hq' (i - (r.length - q.length))
    omega
  · rw [hq_zero];have:=hq_pos (lead r / lead q);omega
theorem vals_len (l:List (Option Rat)):(vals l).length=l.length:=by simp [vals]
theorem vals_get (l:List (Option Rat)) (i:Nat):(vals l).getD i 0=(l.getD i none).getD 0:=by
  unfold vals
  by_cases h:i<l.length
  · rw [List.getD_eq_getElem?_getD,List.getElem?_map,List.getElem?_eq_getElem h,List.getD_eq_getElem?_getD,List.getElem?_eq_getElem h];rfl
  · rw [gD0 (by rw [List.length_map];omega),List.getD_eq_getElem?_getD,List.getElem?_eq_none (by omega)];rfl
theorem vals_some (l:List Rat):vals (l.map some)=l:=by unfold vals;rw [List.map_map];exact List.map_id l
theorem take_s {l:List Rat} {i:Nat} (h:i<l.length):l.take i++[l.getD i 0]=l.take (i+1):=by
  rw [List.take_add_one,List.getD_eq_getElem?_getD,List.getElem?_eq_getElem h];rfl
theorem vals_take {l:List (Option Rat)} {i:Nat} (h:i<l.length):(vals l).take i++[(l.getD i none).getD 0]=(vals l).take (i+1):=by
  rw [← vals_get];exact take_s (by rw [vals_len];exact h)
theorem tn_yes {l:List Rat} {j:Nat} (h0:0<j) (h:l.getD (j - 1) 0=0):tn l j=tn l (j - 1):=by
  obtain ⟨k,rfl⟩:∃k,j=k+1:=⟨j - 1,by omega⟩
  simp only [Nat.add_sub_cancel] at h ⊢
  simp only [tn];rw [if_pos h]
theorem tn_no {l:List Rat} {j:Nat} (h:¬(0<j∧l.getD (j - 1) 0=0)):tn l j=j:=by
  cases j with
  |zero=>rfl
  |succ k=>simp only [tn];rw [if_neg fun e=>h ⟨by omega,by simpa using e⟩]
theorem hz_get {l:List Rat} {j:Nat} (h0:0<j) (h:sgq (l.getD ((j:Int) - 1).toNat 0)=0):l.getD (j - 1) 0=0:=by
  rw [show ((j:Int) - 1).toNat=j - 1 by omega] at h
  exact sgq_zero.1 h
theorem hz_no {l:List Rat} {j:Nat} (h:¬((0:Int)<(j:Int)∧sgq (l.getD ((j:Int) - 1).toNat 0)=0)):¬(0<j∧l.getD (j - 1) 0=0):=fun k=>h ⟨by omega,by rw [show ((j:Int) - 1).toNat=j - 1 by omega,sgq_zero];exact k.2⟩
theorem cl_take {l:List Rat} {n j:Nat} (hn:l.length=n) (h:tn l n=tn l j) (hj:tn l j=j):cl l=l.take j:=by unfold cl;rw [hn,h,hj]
theorem set_step {A:List (Option Rat)} {g:Nat→Rat} {i:Nat} {x:Rat} (h:∀j,j<i→A.getD j none=some (g j)) (hi:i<A.length) (hx:x=g i):∀j,j<i+1→(A.set i (some x)).getD j none=some (g j):=fun j hj=>by
  rw [List.getD_eq_getElem?_getD,List.getElem?_set]
  by_cases e:i=j
  · subst e;rw [if_pos rfl,if_pos hi,hx];rfl
  · rw [if_neg e,←List.getD_eq_getElem?_getD];exact h j (by omega)
theorem vals_gen {A:List (Option Rat)} {g:Nat→Rat} {n:Nat} (hn:A.length=n) (h:∀j,j<n→A.getD j none=some (g j)):vals A=gen g n:=by
  refine List.ext_getElem? fun i=> ?_
  by_cases hi:i<n
  · have e : (vals A).getD i 0 = (gen g n).getD i 0 := by rw [vals_get, h i hi, gen_get, if_pos hi]; rfl
    rw [List.getD_eq_getElem?_getD,List.getD_eq_getElem?_getD,List.getElem?_eq_getElem (by rw [vals_len];omega),List.getElem?_eq_getElem (by rw [gen_len];omega)] at e
    rw [List.getElem?_eq_getElem (by rw [vals_len];omega),List.getElem?_eq_getElem (by rw [gen_len];omega)]
    exact congrArg some e
  · rw [List.getElem?_eq_none (by rw [vals_len];omega),List.getElem?_eq_none (by rw [gen_len];omega)]
theorem gen_congr {f g:Nat→Rat}:∀{n},(∀i,i<n→f i=g i)→gen f n=gen g n
  |0,_=>rfl
  |n+1,h=>by simp only [gen];rw [gen_congr fun i hi=>h i (by omega),h n (by omega)]
theorem vals_add {A l m:List (Option Rat)} {n:Nat} (hm:n=max l.length m.length) (hn:A.length=n) (h:∀j,j<n→A.getD j none=some ((l.getD j none).getD 0+(m.getD j none).getD 0)):cl (vals A)=add (vals l) (vals m):=by
  unfold add
  rw [vals_gen hn h,vals_len,vals_len,←hm]
  exact congrArg cl (gen_congr fun i _=>by rw [vals_get,vals_get])
theorem vals_sub {A l m:List (Option Rat)} {n:Nat} (hm:n=max l.length m.length) (hn:A.length=n) (h:∀j,j<n→A.getD j none=some ((l.getD j none).getD 0 - (m.getD j none).getD 0)):cl (vals A)=sub (vals l) (vals m):=by
  unfold sub
  rw [vals_gen hn h,vals_len,vals_len,←hm]
  exact congrArg cl (gen_congr fun i _=>by rw [vals_get,vals_get])
theorem at_end {l:List (Option Rat)} {i:Nat} (h:l.length≤i):(l.getD i none).getD 0=((0:Int):Rat):=by
  rw [List.getD_eq_getElem?_getD,List.getElem?_eq_none h];rfl
theorem cv_step (P Q:List Rat) {k lo i:Nat} (h:lo≤i):cv P Q k lo (i - lo)+P.getD i 0*Q.getD (k - i) 0=cv P Q k lo (i+1 - lo):=by
  rw [show i+1 - lo=i - lo+1 by omega]
  show _=cv P Q k lo (i - lo)+P.getD (lo+(i - lo)) 0*Q.getD (k - (lo+(i - lo))) 0
  rw [show lo+(i - lo)=i by omega]
theorem cl_le_len (l:List Rat):(cl l).length≤l.length:=by rw [cl_len];exact tn_le _ _
def pc (P Q:List Rat) (k:Nat):Rat:=cv P Q k (k+1 - Q.length) (min k (P.length - 1)+1 - (k+1 - Q.length))
theorem pc_end {P Q:List Rat} {k i:Nat} (h1:k+1 - Q.length≤i) (h2:¬((i:Int)≤min (k:Int) ((P.length:Int) - 1))) (h3:i≤max (k+1 - Q.length) (min k (P.length - 1)+1)) (hp:0<P.length):cv P Q k (k+1 - Q.length) (i - (k+1 - Q.length))=pc P Q k:=by
  unfold pc
  congr 1
  omega
theorem vals_mul {A l m:List (Option Rat)} {P Q:List Rat} {n:Nat} (hP:P=cl (vals l)) (hQ:Q=cl (vals m)) (h0:¬(P.length=0∨Q.length=0)) (hn':n=P.length+Q.length - 1) (hn:A.length=n) (h:∀j,j<n→A.getD j none=some (pc P Q j)):cl (vals A)=mul (vals l) (vals m):=by
  unfold mul mulC
  rw [← hP,←hQ,if_neg (fun k=>h0 (k.imp (fun e=>by rw [e];rfl) (fun e=>by rw [e];rfl))),vals_gen hn h,hn']
  rfl
theorem mul_none {l m:List (Option Rat)} {P Q:List Rat} (hP:P=cl (vals l)) (hQ:Q=cl (vals m)) (h0:P.length=0∨Q.length=0):mul (vals l) (vals m)=[]:=by
  unfold mul mulC
  rw [← hP,←hQ,if_pos (h0.imp List.length_eq_zero_iff.1 List.length_eq_zero_iff.1)]
theorem ev_step {x:Rat} {l:List Rat} {i:Nat} (h0:0<i) (h:i≤l.length):ev x (l.drop i)*x+l.getD (i - 1) 0=ev x (l.drop (i - 1)):=by
  obtain ⟨j,rfl⟩:∃j,i=j+1:=⟨i - 1,by omega⟩
  rw [Nat.add_sub_cancel,List.drop_eq_getElem_cons (i:=j) (by omega),List.getD_eq_getElem?_getD,List.getElem?_eq_getElem (by omega)]
  rfl
theorem ev_top {x:Rat} {l:List (Option Rat)} {n:Nat} (h:l.length=n):ev x ((vals l).drop n)=((0:Int):Rat):=by
  rw [List.drop_eq_nil_of_le (by rw [vals_len];omega)];rfl
def dg (l:List (Option Rat)) (i:Nat):Rat:=(((i+1:Nat):Int):Rat)*(l.getD (i+1) none).getD 0
theorem dg_step {l:List (Option Rat)} {i:Nat} (h:1≤i):gen (dg l) (i - 1)++[(((i:Nat):Int):Rat)*(l.getD i none).getD 0]=gen (dg l) (i+1 - 1):=by
  obtain ⟨j,rfl⟩:∃j,i=j+1:=⟨i - 1,by omega⟩
  rfl
theorem dg_der {l:List (Option Rat)} {n k:Nat} (h:l.length=n) (hk:k=n - 1):cl (vals ((gen (dg l) k).map some))=der (vals l):=by
  rw [vals_some]
  unfold der
  rw [vals_len,h,←hk]
  exact congrArg cl (gen_congr fun i _=>by rw [vals_get];rfl)
theorem take_get {l:List Rat} {i j:Nat} (h:i<j):(l.take j).getD i 0=l.getD i 0:=by
  rw [List.getD_eq_getElem?_getD,List.getElem?_take,if_pos h,←List.getD_eq_getElem?_getD]
def scl (l:List Rat) (x:Rat):List Rat:=cl (gen (fun i=>l.getD i 0*x) l.length)
theorem scl_get (l:List Rat) (x:Rat) (i:Nat):(scl l x).getD i 0=l.getD i 0*x:=by
  unfold scl
  rw [cl_get,gen_get]
  split
  · rfl
  · rw [gD0 (by omega)];grind
theorem scl_mul (l:List Rat) (x:Rat):scl l x=mul l [x]:=zJa (cl_cl _) (mul_cl _ _) fun i=>by
  rw [scl_get,mul_get,C_comm]
  have e:∀j,([x]:List Rat).getD j 0=if j=0 then x else 0:=fun j=>by cases j <;> simp
  rw [C_congr i e (fun _=>rfl)]
  show _=co _ _ i (i+1)
  rw [co_mono,if_pos (by omega)]
  exact Rat.mul_comm _ _
theorem sub_scl (p q:List Rat):add p (scl q (((-1:Int):Int):Rat))=sub p q:=zJa (add_cl _ _) (sub_cl _ _) fun i=>by
  rw [add_get,scl_get,sub_get]
  grind
theorem msome (l:List Rat) (i:Nat):((l.map some).getD i none).getD 0=l.getD i 0:=by rw [← vals_get,vals_some]
theorem same_all {l m:List Rat} {n:Nat} (h1:l.length=n) (h2:m.length=n) (h:∀i,i<n→l.getD i 0=m.getD i 0):l=m:=by
  refine List.ext_getElem? fun i=> ?_
  by_cases hi:i<n
  · have e := h i hi
    rw [List.getD_eq_getElem?_getD,List.getD_eq_getElem?_getD,List.getElem?_eq_getElem (by omega),List.getElem?_eq_getElem (by omega)] at e
    rw [List.getElem?_eq_getElem (by omega),List.getElem?_eq_getElem (by omega)]
    exact congrArg some e
  · rw [List.getElem?_eq_none (by omega),List.getElem?_eq_none (by omega)]
end Go.Proofs.YtbiaimgafknkmaaGreat.Po
namespace Go.Proofs.YtbiaimgafknkmaaGreat.Sp
open Go
set_option linter.unusedVariables false
section
variable {P : Program} {n : Sz} {m : Fm} {O : List As} {R : List Fa} {d : Option Tmp} {ty : TypeId} {ps : String} {af : Array Edge} {gd : Option (Nat × Bool)} {α : Type}
end
structure Bb where
  (ar le tp rt bt sx sy xx xy yy ms mx my:Int)
deriving DecidableEq
def b0:Bb:=⟨0,0,0,0,0,0,0,0,0,0,0,0,0⟩
end Go.Proofs.YtbiaimgafknkmaaGreat.Sp
namespace Go.Proofs.YtbiaimgafknkmaaGreat.Sp
open Go
structure Gr where
  (w h m:Int) (p:Option Addr) (n c:Nat)
end Go.Proofs.YtbiaimgafknkmaaGreat.Sp
namespace Go.Proofs.YtbiaimgafknkmaaGreat.Sp
open Go
set_option linter.unusedVariables false
section
variable {P : Program} {n : Sz} {m : Fm} {O : List As} {R : List Fa} {d : Option Tmp} {ty : TypeId} {ps : String} {af : Array Edge} {gd : Option (Nat × Bool)} {α : Type}
theorem zEf {t T:TypeId} {bytes:Nat} {z:Value} {x y:Operand} {k1 k2:IntKind} {z1 z2:Int} {k:Nat} {r:Rp α} (hu:P.underlying t=some (.slice T)) (hI:Inf P T r.sz bytes z) (h1:evo m x=some (.int k1 z1)) (h2:evo m y=some (.int k2 z2))
    (hz1:z1=0) (hz2:z2=(k:Int)) (hb:bytes*k≤281474976710656) (hm:k≤9223372036854775807) (hzs:z.cells.size=r.sz) (hpos:0<r.sz):
    Ef P n ⟨d,.makeSlice t x y,ty,ps,af,gd⟩ m [] R (Y:=Nat) (fun _=>True) (fun b=> .slice (some ⟨b,0,none⟩) 0 k) (fun b=>[rowA T r (some ⟨b,0,none⟩) k []]) (fun _=>[]):=by
  intro a f w hh g s rr ap hw hg K Q hK
  have e:hh=Hp.emp:=s
  subst e;subst hz1;subst hz2
  obtain ⟨i,hi,hz,hsz,hby⟩:=hI.info
  have hrun:=run_make (P:=P) w t T i z hu hi hz k1 k2 (0:Int) (k:Int) (by omega) (by omega) (by rw [hby,←Int.natCast_mul];generalize bytes*k=q at hb;omega) (by omega)
  have hrun':(execOp a.eval ⟨d,.makeSlice t x y,ty,ps,af,gd⟩).run P w= .ok (.value (.slice (some ⟨w.heap.size,0,none⟩) 0 k)) (w.alloc (.cells (madeCells z.cells (k*r.sz)) T)):=by
    simp only [execOp,f.ev h1,f.ev h2,Sem.run_bind,hrun,Result.andThen_ok,Sem.run_pure,hsz,Int.toNat_natCast]
    rfl
  refine op_value hrun' ?_
  refine hK w.heap.size _ trivial (mem_new hw hg ?_)
  exact .inr ⟨w.heap.size,0,(madeCells z.cells (k*r.sz)).toList,rfl,Nat.zero_le _,by unfold maxLen;omega,by rw [Array.length_toList,size_madeCells,Nat.zero_add];exact Nat.le_refl _,by rw [Array.toArray_toList],fun j x hx=>by simp at hx⟩
end
end Go.Proofs.YtbiaimgafknkmaaGreat.Sp
namespace Go.Proofs.YtbiaimgafknkmaaGreat.Sp
open Go
set_option linter.unusedVariables false
set_option maxRecDepth 100000
set_option maxHeartbeats 8000000
theorem zEb:Con yb 50 [] [] [] (Y:=Wd×Wd) (fun y=>True) (fun y=> .agg #[y.1.b,y.1.l,y.2.b,y.2.l]) (fun y=>[]) (fun y=>[qF true y.1 y.2 ((0:Int):Rat)]):=by
 refine zl Tryz.func50 rfl rfl rfl (fun c=> ?_)
 show RunC _ _ _ _ _ [] [] []
 refine ze<|za<|zH rfl rfl (zr zr28 rfl) (fun b1=> ?_)
 refine zf<|zd<|ze<|za<|zk rfl rfl (.c rfl .n) ce59 (zhb (z:=0) (hz:=cbd)) (.n) ?_
 rintro ⟨w32,w43⟩ -
 dsimp only [aq,nq,cq]
 refine zj 0 rfl rfl rfl rfl rfl sz28 rfl (.t4 .nil) .z<|zf<|zd<|zE ?_
 exact zA Tryz.results50 (w32,w43) trivial (zn 0 ty28 rfl rfl (.t4 .nil)) rfl (ho:=(.n:PickO _ _ _)) ((.c (j:=0) rfl .n):SelR _ _ _)
theorem zEa {p1:Option Addr} {n1:Nat} {c1:Nat} {l1:List (Option Rat)} (hn1:l1.length=n1) (hm1:n1≤1000):Con yb 31 [.slice p1 n1 c1] [] [slF rE p1 c1 l1] (Y:=(Option Addr)×Nat) (fun y=>True) (fun y=> .slice (y.1) ((Po.cl (Po.vals l1)).length) (y.2)) (fun y=>[]) (fun y=>[slF rQ (y.1) (y.2) (Po.cl (Po.vals l1))]):=by
 refine zl Tryz.func31 rfl rfl rfl (fun c=> ?_)
 show RunC _ _ _ _ _ [(0,.slice p1 n1 c1)] [] [slF rE p1 c1 l1]
 refine zQ 0 rfl (fun hL0=> ?_)
 refine ze<|za<|e_p (zb rfl)<|zf<|zd<|ze<|za<|e_mv rfl<|e_p (zD yc rfl)<|zsa rfl rfl (zEf (r:=rQ) (k:=n1) ya inf28 rfl rfl rfl rfl om om rfl dd) (fun b1 _=> ?_)
 refine e_p (zb rfl)<|zf<|zd<|ze<|ze<|za<|e_mv rfl<|e_p (zD yc rfl)<|e_mv rfl<|zf<|zd<|zy<|zfa (X:=Nat×(Option Addr)×Nat×(List Rat)) (fun x:Nat×(Option Addr)×Nat×(List Rat)=>x.1≤n1∧x.2.2.2=(Po.vals l1).take x.1) (fun x=>[(3,.slice (x.2.1) (x.2.2.2.length) (x.2.2.1)),(12,.int .i64 ((x.1:Nat):Int)),(11,.int .i64 ((n1:Nat):Int)),(10,.slice p1 n1 c1),(2,.slice none 0 0)]) (fun x=>[rowA 28 rQ (x.2.1) (x.2.2.1) (x.2.2.2)]) (fun x=>[slF rE p1 c1 l1]) (fun x:Nat×(Option Addr)×Nat×(List Rat)=>n1 - x.1) (0,some ⟨b1,0,none⟩,n1,([]:List Rat)) (show 0≤n1∧([]:List Rat)=(Po.vals l1).take 0 from by exact ⟨Nat.zero_le _,rfl⟩) ((.e rfl (by first|rfl|(congr 1;omega)|simp_all) (.e rfl (by first|rfl|(congr 1;omega)|simp_all) (.of rfl))):SubM _ _) (ho:=((.e (i:=0) rfl (by first|rfl|(congr 1;omega)|simp_all) .n):PickO _ _ _)) ((.c (j:=0) rfl .n):SelR _ _ _) ?_
 rintro ⟨i,pR,cR,A⟩ hI
 replace hI:i≤n1∧A=(Po.vals l1).take i:=hI
 try dsimp only
 obtain ⟨hi,hA⟩:=hI
 have hAl:A.length=i:=by rw [hA,List.length_take,Po.vals_len];omega
 refine ze<|za<|e_p (zba rfl rfl)<|zf<|zd<|ze<|zC rfl (fun h2=> ?_) (fun h2=> ?_)
 ·
  refine zB<|zd<|ze<|zy<|ze<|za<|r_vl rfl rfl (zla (x0:=(l1.getD i (none:Option Rat))) 0 i rfl yc sz28 rfl (by first|rfl|assumption|(simp;done)|omega) rfl rfl (gD (d:=(none:Option Rat)) om)) ?_
  rintro ⟨b3,o4,w5,w6⟩ -
  dsimp only [aq,nq,cq]
  refine zra open_rE<|e_ru (zS (j:=0) 0 ty28 rfl rfl rfl (.t4 .nil))<|zH rfl rfl (zr zr28 rfl) (fun b7=> ?_)
  refine zj 0 rfl rfl rfl rfl rfl sz28 rfl (.t4 .nil) .z<|zf<|zd<|za<|e_mv rfl<|e_ru (zc 0 ty28 rfl rfl (.t4 .nil))<|zk rfl rfl (.c rfl .n) ce53 (zaa (k1:=(l1.getD i (none:Option Rat)).isSome) (u1:=w5) (v1:=w6) (q1:=((l1.getD i (none:Option Rat)).getD 0))) (.c (j:=1) rfl .n) ?_
  rintro ⟨w38,w49⟩ -
  dsimp only [aq,nq,cq]
  refine zsa rfl rfl (zCa (r:=rQ) (k:=1) ya inf28 rfl dd dd dd (.c (x:=((l1.getD i (none:Option Rat)).getD 0)) (cs:=[w38.b,w38.l,w49.b,w49.l]) (w38,w49) rfl rfl rfl (fun g hr=>Holds.get 0 rfl hr) .n)) (fun b10 _=> ?_)
  refine zV 0 rfl .z<|zza 2 rfl rfl rfl (zma 0 rfl ya inf28 dd rfl rfl (by first|rfl|assumption|(simp;done)|omega) rfl (by first|rfl|assumption|(simp;done)|omega) om om) (fun _=>(.s (.s .z))) ?_
  rintro ⟨p11,c12⟩ -
  dsimp only [aq,nq,cq]
  refine e_p (zb rfl)<|zf<|zN<|zd<|za<|e_p (zK (z:=(((i+1):Nat):Int)) rfl rfl (w64 om))<|e_mv rfl<|zf<|zZ ((i+1),p11,c12,(A++([((l1.getD i (none:Option Rat)).getD 0)]))) (show (i+1)≤n1∧(A++([((l1.getD i (none:Option Rat)).getD 0)]))=(Po.vals l1).take (i+1) from by exact ⟨by omega,by rw [hA];exact Po.vals_take om⟩) (by show n1 - (i+1)<n1 - i;omega) ((.e rfl (by simp) (.of rfl)):SubM _ _) (ho:=((.c (i:=2) rfl .n):PickO _ _ _)) ((.c (j:=5) rfl .n):SelR _ _ _)
 ·
  refine zea<|zi<|zi<|zw<|zd<|ze<|zad 0 rfl .z<|zQ 0 rfl (fun hLc=> ?_)
  have hAv:A=(Po.vals l1):=by rw [hA,List.take_of_length_le (by rw [Po.vals_len];omega)]
  refine za<|e_mv rfl<|e_p (zD ya rfl)<|e_p (zb rfl)<|zf<|zd<|ze<|zy<|zfa (X:=Nat) (fun x:Nat=>x≤n1∧Po.tn (Po.vals l1) n1=Po.tn (Po.vals l1) x) (fun x=>[(6,.int .i64 ((x:Nat):Int)),(3,.slice pR (A.length) cR),(2,.slice none 0 0)]) (fun x=>[]) (fun x=>[slF rQ pR cR A,slF rE p1 c1 l1]) (fun x:Nat=>x) n1 (show n1≤n1∧Po.tn (Po.vals l1) n1=Po.tn (Po.vals l1) n1 from by exact ⟨by omega,rfl⟩) ((.e rfl (by first|rfl|(congr 1;omega)|simp_all) (.c rfl (.c rfl .n))):SubM _ _) (ho:=(.n:PickO _ _ _)) ((.of [0,1] rfl):SelR _ _ _) ?_
  rintro j hI
  replace hI:j≤n1∧Po.tn (Po.vals l1) n1=Po.tn (Po.vals l1) j:=hI
  try dsimp only
  obtain ⟨hj,hT⟩:=hI
  refine ze<|zWa (X:=Unit) (fun x=>True) (fun x=>[(34,.bool (decide ((0<((j:Nat):Int))∧(yj (A.getD ((((j:Nat):Int) - 1).toNat) (0:Rat))=0)))),(6,.int .i64 ((j:Nat):Int)),(3,.slice pR (A.length) cR),(2,.slice none 0 0)]) (fun x=>[]) (fun x=>[slF rQ pR cR A,slF rE p1 c1 l1]) ?_ ?_
  ·
   refine za<|e_mv rfl<|e_p (zwa rfl rfl)<|zga rfl rfl (zha rfl) (fun g1=> ?_) (fun g1=> ?_)
   ·
    refine e_mv rfl<|e_mv rfl<|e_p (zY (z:=(((j:Nat):Int) - 1)) rfl rfl (w64 om))<|r_vl rfl rfl (zla (x0:=(A.getD ((((j:Nat):Int) - 1).toNat) (0:Rat))) 0 ((((j:Nat):Int) - 1).toNat) rfl ya sz28 rfl (by first|rfl|assumption|(simp;done)|omega) rfl om (gD (d:=(0:Rat)) om)) ?_
    rintro ⟨b13,o14,w15,w16⟩ -
    dsimp only [aq,nq,cq]
    refine zra open_rQ<|e_ru (zS (j:=0) 0 ty28 rfl rfl rfl (.t4 .nil))<|zM rfl rfl (.c rfl .n) ce65 (zHc (k1:=true) (u1:=w15) (v1:=w16) (q1:=(A.getD ((((j:Nat):Int) - 1).toNat) (0:Rat)))) (.c (j:=1) rfl .n)<|e_p (zia rfl rfl)<|e_p (zJ rfl rfl)<|zf ?_
    exact zna () (show True from by first|trivial|omega|simp_all) ((.e rfl (congrArg Value.bool (by first|(exact (decide_eq_false (fun k=>g1 k.1)).symm)|exact decide_eq_decide.2 ⟨fun k=>⟨g1,k⟩,fun k=>k.2⟩)) (.of rfl)):SubM _ _) (ho:=(.n:PickO _ _ _)) ((.of [2,3] rfl):SelR _ _ _)
   ·
    refine e_no<|e_no<|e_no<|e_no<|e_no<|e_no<|e_no<|e_p (zJ rfl rfl)<|zf ?_
    exact zna () (show True from by first|trivial|omega|simp_all) ((.e rfl (congrArg Value.bool (by first|(exact (decide_eq_false (fun k=>g1 k.1)).symm)|exact decide_eq_decide.2 ⟨fun k=>⟨g1,k⟩,fun k=>k.2⟩)) (.of rfl)):SubM _ _) (ho:=(.n:PickO _ _ _)) ((.of [0,1] rfl):SelR _ _ _)
  ·
   rintro ⟨⟩ -
   try dsimp only
   refine zC rfl (fun hz=> ?_) (fun hz=> ?_)
   ·
    refine zB<|zd<|zy<|za<|e_mv rfl<|e_p (zY (z:=(((j:Nat):Int) - 1)) rfl rfl (w64 om))<|e_p (zb rfl)<|zf<|zN<|zZ (j - 1) (show (j - 1)≤n1∧Po.tn (Po.vals l1) n1=Po.tn (Po.vals l1) (j - 1) from by exact ⟨by omega,hT.trans (Po.tn_yes om (hAv ▸ Po.hz_get om hz.2))⟩) (by have h9:=hz.1;omega) ((.e rfl (by first|rfl|(congr 1;omega)|simp_all) (.c rfl (.c rfl .n))):SubM _ _) (ho:=(.n:PickO _ _ _)) ((.of [0,1] rfl):SelR _ _ _)
   ·
    refine zea<|zi<|zi<|zw<|zd<|ze<|za<|e_mv rfl<|e_mv rfl<|e_mv rfl<|e_p (zEd (hi:=j) ya sz28 rfl rfl rfl om)<|zra (zFd 0 rfl j om)<|e_p (zb rfl)<|zf<|zd<|zE ?_
    have hv9:(Po.cl (Po.vals l1))=A.take j:=by rw [Po.cl_take (by rw [Po.vals_len];exact hn1) hT (Po.tn_no (hAv ▸ Po.hz_no hz)),hAv]
    exact zA Tryz.results31 (pR,j) trivial (zp rfl) (by rw [hv9,List.length_take,Nat.min_eq_left om]) (ho:=(.n:PickO _ _ _)) ((.e (j:=0) rfl (by rw [hv9]) .n):SelR _ _ _)
end Go.Proofs.YtbiaimgafknkmaaGreat.Sp
namespace Go.Proofs.YtbiaimgafknkmaaGreat.Sp
open Go
set_option linter.unusedVariables false
set_option maxRecDepth 100000
set_option maxHeartbeats 8000000
theorem zkd {p1:Option Addr} {n1:Nat} {c1:Nat} {l1:List (Option Rat)} {i:Nat} (hn1:l1.length=n1) (hm1:n1≤1000) (hi:i≤3000):Con yb 82 [.slice p1 n1 c1,.int .i64 ((i:Nat):Int)] [] [slF rE p1 c1 l1] (Y:=Wd×Wd×Bool) (fun y=>True) (fun y=> .agg #[y.1.b,y.1.l,y.2.1.b,y.2.1.l]) (fun y=>[]) (fun y=>[qF y.2.2 y.1 y.2.1 ((l1.getD i none).getD 0)]):=by
 refine zl Tryz.func82 rfl rfl rfl (fun c=> ?_)
 show RunC _ _ _ _ _ [(0,.slice p1 n1 c1),(1,.int .i64 ((i:Nat):Int))] [] [slF rE p1 c1 l1]
 refine zQ 0 rfl (fun hL0=> ?_)
 refine ze<|za<|zH rfl rfl (zr zr28 rfl) (fun b1=> ?_)
 refine zf<|zd<|ze<|ze<|za<|e_mv rfl<|e_mv rfl<|e_p (zD ya rfl)<|e_p (zba rfl rfl)<|zf<|zd<|zC rfl (fun hlt=> ?_) (fun hlt=> ?_)
 ·
  refine ze<|za<|e_mv rfl<|e_mv rfl<|r_vl rfl rfl (zla (x0:=(l1.getD i (none:Option Rat))) 0 i rfl ya sz28 rfl (by first|rfl|assumption|(simp;done)|omega) rfl rfl (gD (d:=(none:Option Rat)) om)) ?_
  rintro ⟨b2,o3,w4,w5⟩ -
  dsimp only [aq,nq,cq]
  refine zra open_rE<|e_ru (zS (j:=0) 0 ty28 rfl rfl rfl (.t4 .nil))<|zj 0 rfl rfl rfl rfl rfl sz28 rfl (.t4 .nil) .z<|zf<|zd<|zE<|zq ?_
  exact zA Tryz.results82 (w4,w5,((l1.getD i none).isSome)) trivial (zn 0 ty28 rfl rfl (.t4 .nil)) rfl (ho:=(.n:PickO _ _ _)) ((.c (j:=1) rfl .n):SelR _ _ _)
 ·
  refine zB<|zd<|ze<|za<|zk rfl rfl (.n) ce50 (zEb) (.n) ?_
  rintro ⟨w36,w47⟩ -
  dsimp only [aq,nq,cq]
  refine zj 0 rfl rfl rfl rfl rfl sz28 rfl (.t4 .nil) .z<|zf<|zd<|zE ?_
  exact zA Tryz.results82 (w36,w47,true) trivial (zn 0 ty28 rfl rfl (.t4 .nil)) rfl (ho:=(.n:PickO _ _ _)) ((.e (j:=0) rfl (by rw [Po.at_end om]) .n):SelR _ _ _)
theorem zBe {p1:Option Addr} {n1:Nat} {c1:Nat} {l1:List (Option Rat)} {p2:Option Addr} {n2:Nat} {c2:Nat} {l2:List (Option Rat)} (hn1:l1.length=n1) (hm1:n1≤1000) (hn2:l2.length=n2) (hm2:n2≤1000) (hb:∀i,yd ((l1.getD i none).getD 0)+yd ((l2.getD i none).getD 0)+1≤1099511627776):Con yb 46 [.slice p1 n1 c1,.slice p2 n2 c2,.func (.func 47) #[] #[]] [] [slF rE p1 c1 l1,slF rE p2 c2 l2] (Y:=(Option Addr)×Nat) (fun y=>True) (fun y=> .slice (y.1) ((Po.add (Po.vals l1) (Po.vals l2)).length) (y.2)) (fun y=>[]) (fun y=>[slF rQ (y.1) (y.2) (Po.add (Po.vals l1) (Po.vals l2))]):=by
 refine zl Tryz.func46 rfl rfl rfl (fun c=> ?_)
 show RunC _ _ _ _ _ [(0,.slice p1 n1 c1),(1,.slice p2 n2 c2),(2,.func (.func 47) #[] #[])] [] [slF rE p1 c1 l1,slF rE p2 c2 l2]
 refine zQ 0 rfl (fun hL0=> ?_)
 refine zQ 1 rfl (fun hL1=> ?_)
 refine ze<|za<|e_p (zb rfl)<|zf<|zd<|ze<|za<|e_mv rfl<|e_p (zD ya rfl)<|e_mv rfl<|e_p (zD ya rfl)<|e_p (v:= .int .i64 (((max n1 n2):Nat):Int)) (by rw [show ((((max n1 n2):Nat):Int):Int)=max ((n1:Nat):Int) ((n2:Nat):Int) by omega];exact zZd rfl rfl) ?_
 have e1:((((max n1 n2):Nat):Int):Int)=(((max n1 n2):Nat):Int):=by omega
 rw [e1]
 refine zsa rfl rfl (zXa (r:=rE) (k:=(max n1 n2)) (x0:=none) (γ0:=(wz,wz)) yc inf28 rfl rfl rfl rfl om om rfl (fun g _=>eF_wz g) dd) (fun b2 _=> ?_)
 refine e_p (zb rfl)<|zf<|zd<|ze<|ze<|za<|e_mv rfl<|e_p (zD yc rfl)<|e_mv rfl<|zf<|zd<|zy<|zfa (X:=Nat×(List (Option Rat))) (fun x:Nat×(List (Option Rat))=>x.1≤max n1 n2∧x.2.length=max n1 n2∧∀j,j<x.1→x.2.getD j none=some (((l1.getD j none).getD 0)+((l2.getD j none).getD 0))) (fun x=>[(17,.int .i64 ((x.1:Nat):Int)),(16,.int .i64 (((max n1 n2):Nat):Int)),(7,.slice (some ⟨b2,0,none⟩) (max n1 n2) (max n1 n2)),(6,.slice none 0 0),(0,.slice p1 n1 c1),(1,.slice p2 n2 c2),(2,.func (.func 47) #[] #[])]) (fun x=>[rowA 28 rE (some ⟨b2,0,none⟩) (max n1 n2) (x.2)]) (fun x=>[slF rE p1 c1 l1,slF rE p2 c2 l2]) (fun x:Nat×(List (Option Rat))=>max n1 n2 - x.1) (0,List.replicate (max n1 n2) none) (show 0≤max n1 n2∧(List.replicate (max n1 n2) none).length=max n1 n2∧∀j,j<0→(List.replicate (max n1 n2) none).getD j none=some (((l1.getD j none).getD 0)+((l2.getD j none).getD 0)) from by exact ⟨Nat.zero_le _,List.length_replicate,fun j hj=>by omega⟩) ((.e rfl (by first|rfl|(congr 1;omega)|simp_all) (.of rfl)):SubM _ _) (ho:=((.e (i:=0) rfl (by first|rfl|(congr 1;omega)|simp_all) .n):PickO _ _ _)) ((.of [0,1] rfl):SelR _ _ _) ?_
 rintro ⟨i,A⟩ hI
 replace hI:i≤max n1 n2∧A.length=max n1 n2∧∀j,j<i→A.getD j none=some (((l1.getD j none).getD 0)+((l2.getD j none).getD 0)):=hI
 try dsimp only
 obtain ⟨hi,hAl,hA⟩:=hI
 refine ze<|za<|e_p (zba rfl rfl)<|zf<|zd<|ze<|zC rfl (fun h3=> ?_) (fun h3=> ?_)
 ·
  refine zB<|zd<|ze<|zy<|ze<|za<|e_mv rfl<|e_p (zb rfl)<|zf<|zd<|za<|e_mv rfl<|e_mv rfl<|e_mv rfl<|e_mv rfl<|e_mv rfl<|zk rfl rfl (.c rfl (.c rfl .n)) ce82 (zkd (p1:=p1) (n1:=n1) (c1:=c1) (l1:=l1) (i:=i) (hn1:=ass) (hm1:=ass) (hi:=by first|rfl|assumption|exact hb _|omega)) (.c (j:=0) rfl .n) ?_
  rintro ⟨w34,w45,k96⟩ -
  dsimp only [aq,nq,cq]
  refine e_mv rfl<|e_mv rfl<|zk rfl rfl (.c rfl (.c rfl .n)) ce82 (zkd (p1:=p2) (n1:=n2) (c1:=c2) (l1:=l2) (i:=i) (hn1:=ass) (hm1:=ass) (hi:=by first|rfl|assumption|exact hb _|omega)) (.c (j:=2) rfl .n) ?_
  rintro ⟨w37,w48,k99⟩ -
  dsimp only [aq,nq,cq]
  refine zQc (first:=[]) (cap:=[]) rfl rfl rfl (.c rfl (.c rfl .n)) ce47 (zGb (k1:=k96) (u1:=w34) (v1:=w45) (q1:=((l1.getD i none).getD 0)) (k2:=k99) (u2:=w37) (v2:=w48) (q2:=((l2.getD i none).getD 0)) (hl:=by first|rfl|assumption|exact hb _|omega)) (.c (j:=1) rfl (.c (j:=0) rfl .n)) ?_
  rintro ⟨w310,w411⟩ -
  dsimp only [aq,nq,cq]
  refine e_p (zX (j:=i) yc sz28 rfl rfl rfl om)<|zza 0 rfl rfl rfl (zP (r:=rE) (j:=i) (x0:=(some (((l1.getD i none).getD 0)+((l2.getD i none).getD 0)))) (γ0:=(w310,w411)) rfl rfl (by first|omega|(rw [List.length_map];omega)|(simp only [List.length_set];omega)|(simp;done)|(simp;omega)) rfl rfl sz28 (fun g hr=>qF_e (Holds.get 0 rfl hr))) (fun _=> .z) (fun _ _=> ?_)
  refine zf<|zN<|zd<|za<|e_p (zK (z:=(((i+1):Nat):Int)) rfl rfl (w64 om))<|e_mv rfl<|zf<|zZ ((i+1),(A.set i (some (((l1.getD i none).getD 0)+((l2.getD i none).getD 0))))) (show (i+1)≤max n1 n2∧(A.set i (some (((l1.getD i none).getD 0)+((l2.getD i none).getD 0)))).length=max n1 n2∧∀j,j<(i+1)→(A.set i (some (((l1.getD i none).getD 0)+((l2.getD i none).getD 0)))).getD j none=some (((l1.getD j none).getD 0)+((l2.getD j none).getD 0)) from by exact ⟨by omega,by rw [List.length_set];exact hAl,Po.set_step hA om rfl⟩) (by show max n1 n2 - (i+1)<max n1 n2 - i;omega) ((.of rfl):SubM _ _) (ho:=((.c (i:=0) rfl .n):PickO _ _ _)) ((.of [3,4] rfl):SelR _ _ _)
 ·
  refine zea<|zi<|zi<|zw<|zd<|ze<|za<|e_mv rfl<|zV 0 rfl .z<|zk rfl rfl (.c rfl .n) ce31 (zEa (p1:=some ⟨b2,0,none⟩) (n1:=(max n1 n2)) (c1:=(max n1 n2)) (l1:=A) (hn1:=by first|rfl|assumption|exact hb _|omega) (hm1:=by first|rfl|assumption|exact hb _|omega)) (.c (j:=0) rfl .n) ?_
  rintro ⟨p912,c913⟩ -
  dsimp only [aq,nq,cq]
  refine e_p (zb rfl)<|zf<|zd<|zE ?_
  have hv9:=Po.vals_add (l:=l1) (m:=l2) (n:=max n1 n2) (by rw [hn1,hn2]) hAl (fun j hj=>hA j om)
  exact zA Tryz.results46 (p912,c913) trivial (zp rfl) (by rw [hv9]) (ho:=(.n:PickO _ _ _)) ((.e (j:=0) rfl (by rw [hv9]) .n):SelR _ _ _)
theorem zCe {p1:Option Addr} {n1:Nat} {c1:Nat} {l1:List (Option Rat)} {p2:Option Addr} {n2:Nat} {c2:Nat} {l2:List (Option Rat)} (hn1:l1.length=n1) (hm1:n1≤1000) (hn2:l2.length=n2) (hm2:n2≤1000) (hb:∀i,yd ((l1.getD i none).getD 0)+yd ((l2.getD i none).getD 0)+1≤1099511627776):Con yb 46 [.slice p1 n1 c1,.slice p2 n2 c2,.func (.func 49) #[] #[]] [] [slF rE p1 c1 l1,slF rE p2 c2 l2] (Y:=(Option Addr)×Nat) (fun y=>True) (fun y=> .slice (y.1) ((Po.sub (Po.vals l1) (Po.vals l2)).length) (y.2)) (fun y=>[]) (fun y=>[slF rQ (y.1) (y.2) (Po.sub (Po.vals l1) (Po.vals l2))]):=by
 refine zl Tryz.func46 rfl rfl rfl (fun c=> ?_)
 show RunC _ _ _ _ _ [(0,.slice p1 n1 c1),(1,.slice p2 n2 c2),(2,.func (.func 49) #[] #[])] [] [slF rE p1 c1 l1,slF rE p2 c2 l2]
 refine zQ 0 rfl (fun hL0=> ?_)
 refine zQ 1 rfl (fun hL1=> ?_)
 refine ze<|za<|e_p (zb rfl)<|zf<|zd<|ze<|za<|e_mv rfl<|e_p (zD ya rfl)<|e_mv rfl<|e_p (zD ya rfl)<|e_p (v:= .int .i64 (((max n1 n2):Nat):Int)) (by rw [show ((((max n1 n2):Nat):Int):Int)=max ((n1:Nat):Int) ((n2:Nat):Int) by omega];exact zZd rfl rfl) ?_
 have e1:((((max n1 n2):Nat):Int):Int)=(((max n1 n2):Nat):Int):=by omega
 rw [e1]
 refine zsa rfl rfl (zXa (r:=rE) (k:=(max n1 n2)) (x0:=none) (γ0:=(wz,wz)) yc inf28 rfl rfl rfl rfl om om rfl (fun g _=>eF_wz g) dd) (fun b2 _=> ?_)
 refine e_p (zb rfl)<|zf<|zd<|ze<|ze<|za<|e_mv rfl<|e_p (zD yc rfl)<|e_mv rfl<|zf<|zd<|zy<|zfa (X:=Nat×(List (Option Rat))) (fun x:Nat×(List (Option Rat))=>x.1≤max n1 n2∧x.2.length=max n1 n2∧∀j,j<x.1→x.2.getD j none=some (((l1.getD j none).getD 0) - ((l2.getD j none).getD 0))) (fun x=>[(17,.int .i64 ((x.1:Nat):Int)),(16,.int .i64 (((max n1 n2):Nat):Int)),(7,.slice (some ⟨b2,0,none⟩) (max n1 n2) (max n1 n2)),(6,.slice none 0 0),(0,.slice p1 n1 c1),(1,.slice p2 n2 c2),(2,.func (.func 49) #[] #[])]) (fun x=>[rowA 28 rE (some ⟨b2,0,none⟩) (max n1 n2) (x.2)]) (fun x=>[slF rE p1 c1 l1,slF rE p2 c2 l2]) (fun x:Nat×(List (Option Rat))=>max n1 n2 - x.1) (0,List.replicate (max n1 n2) none) (show 0≤max n1 n2∧(List.replicate (max n1 n2) none).length=max n1 n2∧∀j,j<0→(List.replicate (max n1 n2) none).getD j none=some (((l1.getD j none).getD 0) - ((l2.getD j none).getD 0)) from by exact ⟨Nat.zero_le _,List.length_replicate,fun j hj=>by omega⟩) ((.e rfl (by first|rfl|(congr 1;omega)|simp_all) (.of rfl)):SubM _ _) (ho:=((.e (i:=0) rfl (by first|rfl|(congr 1;omega)|simp_all) .n):PickO _ _ _)) ((.of [0,1] rfl):SelR _ _ _) ?_
 rintro ⟨i,A⟩ hI
 replace hI:i≤max n1 n2∧A.length=max n1 n2∧∀j,j<i→A.getD j none=some (((l1.getD j none).getD 0) - ((l2.getD j none).getD 0)):=hI
 try dsimp only
 obtain ⟨hi,hAl,hA⟩:=hI
 refine ze<|za<|e_p (zba rfl rfl)<|zf<|zd<|ze<|zC rfl (fun h3=> ?_) (fun h3=> ?_)
 ·
  refine zB<|zd<|ze<|zy<|ze<|za<|e_mv rfl<|e_p (zb rfl)<|zf<|zd<|za<|e_mv rfl<|e_mv rfl<|e_mv rfl<|e_mv rfl<|e_mv rfl<|zk rfl rfl (.c rfl (.c rfl .n)) ce82 (zkd (p1:=p1) (n1:=n1) (c1:=c1) (l1:=l1) (i:=i) (hn1:=ass) (hm1:=ass) (hi:=by first|rfl|assumption|exact hb _|omega)) (.c (j:=0) rfl .n) ?_
  rintro ⟨w34,w45,k96⟩ -
  dsimp only [aq,nq,cq]
  refine e_mv rfl<|e_mv rfl<|zk rfl rfl (.c rfl (.c rfl .n)) ce82 (zkd (p1:=p2) (n1:=n2) (c1:=c2) (l1:=l2) (i:=i) (hn1:=ass) (hm1:=ass) (hi:=by first|rfl|assumption|exact hb _|omega)) (.c (j:=2) rfl .n) ?_
  rintro ⟨w37,w48,k99⟩ -
  dsimp only [aq,nq,cq]
  refine zQc (first:=[]) (cap:=[]) rfl rfl rfl (.c rfl (.c rfl .n)) ce49 (zBf (k1:=k96) (u1:=w34) (v1:=w45) (q1:=((l1.getD i none).getD 0)) (k2:=k99) (u2:=w37) (v2:=w48) (q2:=((l2.getD i none).getD 0)) (hl:=by first|rfl|assumption|exact hb _|omega)) (.c (j:=1) rfl (.c (j:=0) rfl .n)) ?_
  rintro ⟨w310,w411⟩ -
  dsimp only [aq,nq,cq]
  refine e_p (zX (j:=i) yc sz28 rfl rfl rfl om)<|zza 0 rfl rfl rfl (zP (r:=rE) (j:=i) (x0:=(some (((l1.getD i none).getD 0) - ((l2.getD i none).getD 0)))) (γ0:=(w310,w411)) rfl rfl (by first|omega|(rw [List.length_map];omega)|(simp only [List.length_set];omega)|(simp;done)|(simp;omega)) rfl rfl sz28 (fun g hr=>qF_e (Holds.get 0 rfl hr))) (fun _=> .z) (fun _ _=> ?_)
  refine zf<|zN<|zd<|za<|e_p (zK (z:=(((i+1):Nat):Int)) rfl rfl (w64 om))<|e_mv rfl<|zf<|zZ ((i+1),(A.set i (some (((l1.getD i none).getD 0) - ((l2.getD i none).getD 0))))) (show (i+1)≤max n1 n2∧(A.set i (some (((l1.getD i none).getD 0) - ((l2.getD i none).getD 0)))).length=max n1 n2∧∀j,j<(i+1)→(A.set i (some (((l1.getD i none).getD 0) - ((l2.getD i none).getD 0)))).getD j none=some (((l1.getD j none).getD 0) - ((l2.getD j none).getD 0)) from by exact ⟨by omega,by rw [List.length_set];exact hAl,Po.set_step hA om rfl⟩) (by show max n1 n2 - (i+1)<max n1 n2 - i;omega) ((.of rfl):SubM _ _) (ho:=((.c (i:=0) rfl .n):PickO _ _ _)) ((.of [3,4] rfl):SelR _ _ _)
 ·
  refine zea<|zi<|zi<|zw<|zd<|ze<|za<|e_mv rfl<|zV 0 rfl .z<|zk rfl rfl (.c rfl .n) ce31 (zEa (p1:=some ⟨b2,0,none⟩) (n1:=(max n1 n2)) (c1:=(max n1 n2)) (l1:=A) (hn1:=by first|rfl|assumption|exact hb _|omega) (hm1:=by first|rfl|assumption|exact hb _|omega)) (.c (j:=0) rfl .n) ?_
  rintro ⟨p912,c913⟩ -
  dsimp only [aq,nq,cq]
  refine e_p (zb rfl)<|zf<|zd<|zE ?_
  have hv9:=Po.vals_sub (l:=l1) (m:=l2) (n:=max n1 n2) (by rw [hn1,hn2]) hAl (fun j hj=>hA j om)
  exact zA Tryz.results46 (p912,c913) trivial (zp rfl) (by rw [hv9]) (ho:=(.n:PickO _ _ _)) ((.e (j:=0) rfl (by rw [hv9]) .n):SelR _ _ _)
theorem zFf {p1:Option Addr} {n1:Nat} {c1:Nat} {l1:List (Option Rat)} {p2:Option Addr} {n2:Nat} {c2:Nat} {l2:List (Option Rat)} (hn1:l1.length=n1) (hm1:n1≤1000) (hn2:l2.length=n2) (hm2:n2≤1000) (hb:∀i,yd ((l1.getD i none).getD 0)+yd ((l2.getD i none).getD 0)+1≤1099511627776):Con yb 13 [.slice p1 n1 c1,.slice p2 n2 c2] [] [slF rE p1 c1 l1,slF rE p2 c2 l2] (Y:=(Option Addr)×Nat) (fun y=>True) (fun y=> .slice (y.1) ((Po.add (Po.vals l1) (Po.vals l2)).length) (y.2)) (fun y=>[]) (fun y=>[slF rQ (y.1) (y.2) (Po.add (Po.vals l1) (Po.vals l2))]):=by
 refine zl Tryz.func13 rfl rfl rfl (fun c=> ?_)
 show RunC _ _ _ _ _ [(0,.slice p1 n1 c1),(1,.slice p2 n2 c2)] [] [slF rE p1 c1 l1,slF rE p2 c2 l2]
 refine zQ 0 rfl (fun hL0=> ?_)
 refine zQ 1 rfl (fun hL1=> ?_)
 refine ze<|za<|e_p (zb rfl)<|zf<|zd<|ze<|za<|e_mv rfl<|e_mv rfl<|zk rfl rfl (.c rfl (.c rfl (.c rfl .n))) ce46 (zBe (p1:=p1) (n1:=n1) (c1:=c1) (l1:=l1) (p2:=p2) (n2:=n2) (c2:=c2) (l2:=l2) (hn1:=ass) (hm1:=ass) (hn2:=ass) (hm2:=ass) (hb:=ass)) (.c (j:=0) rfl (.c (j:=1) rfl .n)) ?_
 rintro ⟨p91,c92⟩ -
 dsimp only [aq,nq,cq]
 refine e_p (zb rfl)<|zf<|zd<|zE ?_
 exact zA Tryz.results13 (p91,c92) trivial (zp rfl) rfl (ho:=(.n:PickO _ _ _)) ((.c (j:=0) rfl .n):SelR _ _ _)
theorem zGf {p1:Option Addr} {n1:Nat} {c1:Nat} {l1:List (Option Rat)} {p2:Option Addr} {n2:Nat} {c2:Nat} {l2:List (Option Rat)} (hn1:l1.length=n1) (hm1:n1≤1000) (hn2:l2.length=n2) (hm2:n2≤1000) (hb:∀i,yd ((l1.getD i none).getD 0)+yd ((l2.getD i none).getD 0)+1≤1099511627776):Con yb 15 [.slice p1 n1 c1,.slice p2 n2 c2] [] [slF rE p1 c1 l1,slF rE p2 c2 l2] (Y:=(Option Addr)×Nat) (fun y=>True) (fun y=> .slice (y.1) ((Po.sub (Po.vals l1) (Po.vals l2)).length) (y.2)) (fun y=>[]) (fun y=>[slF rQ (y.1) (y.2) (Po.sub (Po.vals l1) (Po.vals l2))]):=by
 refine zl Tryz.func15 rfl rfl rfl (fun c=> ?_)
 show RunC _ _ _ _ _ [(0,.slice p1 n1 c1),(1,.slice p2 n2 c2)] [] [slF rE p1 c1 l1,slF rE p2 c2 l2]
 refine zQ 0 rfl (fun hL0=> ?_)
 refine zQ 1 rfl (fun hL1=> ?_)
 refine ze<|za<|e_p (zb rfl)<|zf<|zd<|ze<|za<|e_mv rfl<|e_mv rfl<|zk rfl rfl (.c rfl (.c rfl (.c rfl .n))) ce46 (zCe (p1:=p1) (n1:=n1) (c1:=c1) (l1:=l1) (p2:=p2) (n2:=n2) (c2:=c2) (l2:=l2) (hn1:=ass) (hm1:=ass) (hn2:=ass) (hm2:=ass) (hb:=ass)) (.c (j:=0) rfl (.c (j:=1) rfl .n)) ?_
 rintro ⟨p91,c92⟩ -
 dsimp only [aq,nq,cq]
 refine e_p (zb rfl)<|zf<|zd<|zE ?_
 exact zA Tryz.results15 (p91,c92) trivial (zp rfl) rfl (ho:=(.n:PickO _ _ _)) ((.c (j:=0) rfl .n):SelR _ _ _)
end Go.Proofs.YtbiaimgafknkmaaGreat.Sp
namespace Go.Proofs.YtbiaimgafknkmaaGreat.Sp
open Go
set_option linter.unusedVariables false
set_option maxRecDepth 100000
set_option maxHeartbeats 8000000
theorem zvc {p1:Option Addr} {n1:Nat} {c1:Nat} {l1:List (Option Rat)} {p2:Option Addr} {n2:Nat} {c2:Nat} {l2:List (Option Rat)} (hn1:l1.length=n1) (hm1:n1≤1000) (hn2:l2.length=n2) (hm2:n2≤1000) (hm12:n1+n2≤1000) (hb1:∀i,yd ((Po.vals l1).getD i 0)≤200000000000) (hb2:∀i,yd ((Po.vals l2).getD i 0)≤200000000000) (hs:∀k lo n,lo+n≤k+1→yd (Po.cv (Po.cl (Po.vals l1)) (Po.cl (Po.vals l2)) k lo n)≤200000000000):Con yb 17 [.slice p1 n1 c1,.slice p2 n2 c2] [] [slF rE p1 c1 l1,slF rE p2 c2 l2] (Y:=(Option Addr)×Nat) (fun y=>True) (fun y=> .slice (y.1) ((Po.mul (Po.vals l1) (Po.vals l2)).length) (y.2)) (fun y=>[]) (fun y=>[slF rQ (y.1) (y.2) (Po.mul (Po.vals l1) (Po.vals l2))]):=by
 refine zl Tryz.func17 rfl rfl rfl (fun c=> ?_)
 show RunC _ _ _ _ _ [(0,.slice p1 n1 c1),(1,.slice p2 n2 c2)] [] [slF rE p1 c1 l1,slF rE p2 c2 l2]
 refine zQ 0 rfl (fun hL0=> ?_)
 refine zQ 1 rfl (fun hL1=> ?_)
 refine ze<|za<|e_p (zb rfl)<|zf<|zd<|ze<|za<|e_mv rfl<|zk rfl rfl (.c rfl .n) ce31 (zEa (p1:=p1) (n1:=n1) (c1:=c1) (l1:=l1) (hn1:=ass) (hm1:=ass)) (.c (j:=0) rfl .n) ?_
 rintro ⟨p91,c92⟩ -
 dsimp only [aq,nq,cq]
 refine e_mv rfl<|zk rfl rfl (.c rfl .n) ce31 (zEa (p1:=p2) (n1:=n2) (c1:=c2) (l1:=l2) (hn1:=ass) (hm1:=ass)) (.c (j:=2) rfl .n) ?_
 rintro ⟨p93,c94⟩ -
 dsimp only [aq,nq,cq]
 refine e_p (zb rfl)<|e_p (zb rfl)<|zf<|zd<|ze ?_
 obtain ⟨P,hP⟩:∃z,z=(Po.cl (Po.vals l1)):=⟨_,rfl⟩
 have e5:(Po.cl (Po.vals l1):List Rat)=P:=by exact hP.symm
 rw [e5]
 obtain ⟨Q,hQ⟩:∃z,z=(Po.cl (Po.vals l2)):=⟨_,rfl⟩
 have e6:(Po.cl (Po.vals l2):List Rat)=Q:=by exact hQ.symm
 rw [e6]
 have hbP:∀i,yd (P.getD i 0)≤200000000000:=fun i=>by rw [hP,Po.cl_get];exact hb1 i
 have hbQ:∀i,yd (Q.getD i 0)≤200000000000:=fun i=>by rw [hQ,Po.cl_get];exact hb2 i
 have hsP:∀k lo n,lo+n≤k+1→yd (Po.cv P Q k lo n)≤200000000000:=by rw [hP,hQ];exact hs
 have hPl:P.length≤n1:=by rw [hP,←hn1,←Po.vals_len l1];exact Po.cl_le_len _
 have hQl:Q.length≤n2:=by rw [hQ,←hn2,←Po.vals_len l2];exact Po.cl_le_len _
 refine zWa (X:=Unit) (fun x=>True) (fun x=>[(20,.bool (decide (((((P).length:Nat):Int)=0)∨((((Q).length:Nat):Int)=0)))),(1,.slice p93 ((Q).length) c94),(0,.slice p91 ((P).length) c92),(4,.slice none 0 0)]) (fun x=>[]) (fun x=>[slF rQ p93 c94 Q,slF rQ p91 c92 P,slF rE p1 c1 l1,slF rE p2 c2 l2]) ?_ ?_
 ·
  refine za<|e_mv rfl<|e_p (zD ya rfl)<|e_p (zia rfl rfl)<|zga rfl rfl (zha rfl) (fun g1=> ?_) (fun g1=> ?_)
  ·
   refine e_no<|e_no<|e_no<|e_p (zJ rfl rfl)<|zf ?_
   exact zna () (show True from by first|trivial|omega|simp_all) ((.e rfl (congrArg Value.bool (by first|(exact (decide_eq_true (Or.inl g1)).symm)|exact decide_eq_decide.2 ⟨fun k=>Or.inr k,fun k=>k.elim (fun e=>absurd e g1) _root_.id⟩)) (.of rfl)):SubM _ _) (ho:=(.n:PickO _ _ _)) ((.of [0,1,2,3] rfl):SelR _ _ _)
  ·
   refine e_mv rfl<|e_p (zD ya rfl)<|e_p (zia rfl rfl)<|e_p (zJ rfl rfl)<|zf ?_
   exact zna () (show True from by first|trivial|omega|simp_all) ((.e rfl (congrArg Value.bool (by first|(exact (decide_eq_true (Or.inl g1)).symm)|exact decide_eq_decide.2 ⟨fun k=>Or.inr k,fun k=>k.elim (fun e=>absurd e g1) _root_.id⟩)) (.of rfl)):SubM _ _) (ho:=(.n:PickO _ _ _)) ((.of [0,1,2,3] rfl):SelR _ _ _)
 ·
  rintro ⟨⟩ -
  try dsimp only
  refine zC rfl (fun h20=> ?_) (fun h20=> ?_)
  ·
   refine ze<|za<|e_p (zb rfl)<|zf<|zd<|zE<|zq<|zJb rQ ?_
   have hv9:(Po.mul (Po.vals l1) (Po.vals l2))=[]:=Po.mul_none hP hQ om
   exact zA Tryz.results17 (none,0) trivial (zp rfl) (by rw [hv9];rfl) (ho:=(.n:PickO _ _ _)) ((.e (j:=0) rfl (by rw [hv9]) .n):SelR _ _ _)
  ·
   have hPQ:0<P.length∧0<Q.length:=by omega
   refine zB<|zd<|ze<|za<|e_mv rfl<|e_p (zD ya rfl)<|e_mv rfl<|e_p (zD ya rfl)<|e_p (zK (z:=(((((P).length)+((Q).length)):Nat):Int)) rfl rfl (w64 om))<|e_p (zY (z:=((((((P).length)+((Q).length)):Nat):Int) - 1)) rfl rfl (w64 om)) ?_
   have e7:(((((((P).length)+((Q).length)):Nat):Int) - 1):Int)=(((P.length+Q.length - 1):Nat):Int):=by omega
   rw [e7]
   refine zsa rfl rfl (zXa (r:=rE) (k:=(P.length+Q.length - 1)) (x0:=none) (γ0:=(wz,wz)) yc inf28 rfl rfl rfl rfl om om rfl (fun g _=>eF_wz g) dd) (fun b8 _=> ?_)
   refine e_p (zb rfl)<|zf<|zd<|ze<|ze<|za<|e_mv rfl<|e_p (zD yc rfl)<|e_mv rfl<|zf<|zd<|zy<|zfa (X:=Nat×(List (Option Rat))) (fun x:Nat×(List (Option Rat))=>x.1≤P.length+Q.length - 1∧x.2.length=P.length+Q.length - 1∧∀j,j<x.1→x.2.getD j none=some (Po.pc P Q j)) (fun x=>[(30,.int .i64 ((x.1:Nat):Int)),(29,.int .i64 (((P.length+Q.length - 1):Nat):Int)),(5,.slice (some ⟨b8,0,none⟩) (P.length+Q.length - 1) (P.length+Q.length - 1)),(1,.slice p93 ((Q).length) c94),(0,.slice p91 ((P).length) c92),(4,.slice none 0 0)]) (fun x=>[rowA 28 rE (some ⟨b8,0,none⟩) (P.length+Q.length - 1) (x.2)]) (fun x=>[slF rQ p93 c94 Q,slF rQ p91 c92 P,slF rE p1 c1 l1,slF rE p2 c2 l2]) (fun x:Nat×(List (Option Rat))=>P.length+Q.length - 1 - x.1) (0,List.replicate (P.length+Q.length - 1) none) (show 0≤P.length+Q.length - 1∧(List.replicate (P.length+Q.length - 1) none).length=P.length+Q.length - 1∧∀j,j<0→(List.replicate (P.length+Q.length - 1) none).getD j none=some (Po.pc P Q j) from by exact ⟨Nat.zero_le _,List.length_replicate,fun j hj=>by omega⟩) ((.e rfl (by first|rfl|(congr 1;omega)|simp_all) (.of rfl)):SubM _ _) (ho:=((.e (i:=0) rfl (by first|rfl|(congr 1;omega)|simp_all) .n):PickO _ _ _)) ((.of [0,1,2,3] rfl):SelR _ _ _) ?_
   rintro ⟨k,A⟩ hI
   replace hI:k≤P.length+Q.length - 1∧A.length=P.length+Q.length - 1∧∀j,j<k→A.getD j none=some (Po.pc P Q j):=hI
   try dsimp only
   obtain ⟨hk,hAl,hA⟩:=hI
   refine ze<|za<|e_p (zba rfl rfl)<|zf<|zd<|ze<|zC rfl (fun h9=> ?_) (fun h9=> ?_)
   ·
    refine zB<|zd<|ze<|zy<|ze<|za<|e_mv rfl<|e_p (zb rfl)<|zf<|zd<|ze<|za<|zk rfl rfl (.n) ce50 (zEb) (.n) ?_
    rintro ⟨w310,w411⟩ -
    dsimp only [aq,nq,cq]
    refine zH rfl rfl (zr zr28 rfl) (fun b12=> ?_)
    refine zj 0 rfl rfl rfl rfl rfl sz28 rfl (.t4 .nil) .z<|zf<|zd<|ze<|ze<|za<|e_mv rfl<|e_mv rfl<|e_p (zD ya rfl)<|e_p (zY (z:=(((k:Nat):Int) - (((Q).length:Nat):Int))) rfl rfl (w64 om))<|e_p (zK (z:=((((k:Nat):Int) - (((Q).length:Nat):Int))+1)) rfl rfl (w64 om))<|e_p (zZd rfl rfl) ?_
    have e13:((max 0 ((((k:Nat):Int) - (((Q).length:Nat):Int))+1)):Int)=(((k+1 - Q.length):Nat):Int):=by omega
    rw [e13]
    refine e_p (zb rfl)<|zf<|zd<|zy<|zfa (X:=Nat×Wd×Wd) (fun x:Nat×Wd×Wd=>(k+1 - Q.length)≤x.1∧x.1≤max (k+1 - Q.length) (min k (P.length - 1)+1)) (fun x=>[(8,.int .i64 ((x.1:Nat):Int)),(7,.pointer (some ⟨b12,0,none⟩)),(6,.int .i64 ((k:Nat):Int)),(30,.int .i64 ((k:Nat):Int)),(29,.int .i64 (((P.length+Q.length - 1):Nat):Int)),(5,.slice (some ⟨b8,0,none⟩) (P.length+Q.length - 1) (P.length+Q.length - 1)),(1,.slice p93 ((Q).length) c94),(0,.slice p91 ((P).length) c92),(4,.slice none 0 0)]) (fun x=>[boxA b12 28 (cw [x.2.1,x.2.2]),rowA 28 rE (some ⟨b8,0,none⟩) (P.length+Q.length - 1) A]) (fun x=>[qF true x.2.1 x.2.2 (Po.cv P Q k (k+1 - Q.length) (x.1 - (k+1 - Q.length))),qF true w310 w411 ((0:Int):Rat),slF rQ p93 c94 Q,slF rQ p91 c92 P,slF rE p1 c1 l1,slF rE p2 c2 l2]) (fun x:Nat×Wd×Wd=>k+1 - x.1) ((k+1 - Q.length),w310,w411) (show (k+1 - Q.length)≤(k+1 - Q.length)∧(k+1 - Q.length)≤max (k+1 - Q.length) (min k (P.length - 1)+1) from by exact ⟨Nat.le_refl _,Nat.le_max_left _ _⟩) ((.of rfl):SubM _ _) (ho:=((.of [0,0] rfl):PickO _ _ _)) ((.e (j:=0) rfl (by rw [Nat.sub_self];rfl) (.of [0,1,2,3,4] rfl)):SelR _ _ _) ?_
    rintro ⟨i,su,sv⟩ hi
    replace hi:(k+1 - Q.length)≤i∧i≤max (k+1 - Q.length) (min k (P.length - 1)+1):=hi
    try dsimp only [cw]
    refine ze<|ze<|za<|e_mv rfl<|e_mv rfl<|e_mv rfl<|e_p (zD ya rfl)<|e_p (zY (z:=((((P).length:Nat):Int) - 1)) rfl rfl (w64 om))<|e_p (pv_min rfl rfl)<|e_p (zXd rfl rfl)<|zf<|zd<|zC rfl (fun h14=> ?_) (fun h14=> ?_)
    ·
     refine zB<|zd<|ze<|zy<|zU (OW:=[boxA b12 28 (cw [su,sv])]) (O:=[rowA 28 rE (some ⟨b8,0,none⟩) (P.length+Q.length - 1) A]) 13 mixed (.block (.then (.then (.block (.then (.block (.then (.then (.block (.then .ret)))))))))) kr<|e_uw 0 rfl rfl (zc 0 ty28 rfl rfl (.t4 .nil))<|e_dm 1 rfl rfl rfl<|e_dm 2 rfl rfl rfl<|d_vl 3 rfl rfl kr kr rfl rfl (zla (x0:=((P).getD i (0:Rat))) 3 i rfl ya sz28 rfl (by first|rfl|assumption|(simp;done)|omega) rfl rfl (gD (d:=(0:Rat)) om)) ?_
     rintro ⟨b15,o16,w17,w18⟩ -
     dsimp only [aq,nq,cq]
     refine zVa open_rQ<|e_u 4 rfl rfl (zS (j:=0) 0 ty28 rfl rfl rfl (.t4 .nil))<|e_dm 5 rfl rfl rfl<|e_dm 6 rfl rfl rfl<|e_dm 7 rfl rfl rfl<|e_pv 8 rfl rfl (zY (z:=(((k:Nat):Int) - ((i:Nat):Int))) rfl rfl (w64 om)) ?_
     have e19:((((k:Nat):Int) - ((i:Nat):Int)):Int)=(((k - i):Nat):Int):=by omega
     rw [e19]
     refine d_vl 9 rfl rfl kr kr rfl rfl (zla (x0:=((Q).getD (k - i) (0:Rat))) 4 (k - i) rfl ya sz28 rfl (by first|rfl|assumption|(simp;done)|omega) rfl rfl (gD (d:=(0:Rat)) om)) ?_
     rintro ⟨b20,o21,w22,w23⟩ -
     dsimp only [aq,nq,cq]
     refine zVa open_rQ<|e_u 10 rfl rfl (zS (j:=0) 0 ty28 rfl rfl rfl (.t4 .nil))<|e_one 11 (zu rfl rfl rfl rfl (.c rfl (.c rfl .n)) ce51 (zuc (k1:=true) (u1:=w17) (v1:=w18) (q1:=((P).getD i (0:Rat))) (k2:=true) (u2:=w22) (v2:=w23) (q2:=((Q).getD (k - i) (0:Rat))) (hl:=by have h1:=hbP i;have h2:=hbQ (k - i);omega)) (.c (j:=3) rfl (.c (j:=1) rfl .n)) ?_)
     rintro ⟨w324,w425⟩ -
     dsimp only [aq,nq,cq]
     refine e_one 12 (zu rfl rfl rfl rfl (.c rfl (.c rfl .n)) ce47 (zGb (k1:=true) (u1:=su) (v1:=sv) (q1:=(Po.cv P Q k (k+1 - Q.length) (i - (k+1 - Q.length)))) (k2:=true) (u2:=w324) (v2:=w425) (q2:=((P).getD i (0:Rat))*((Q).getD (k - i) (0:Rat))) (hl:=by have h1:=hsP k (k+1 - Q.length) (i - (k+1 - Q.length)) om;have h2:=hbP i;have h3:=hbQ (k - i);have h4:=Big.hq_mul (P.getD i 0) (Q.getD (k - i) 0);omega)) (.c (j:=5) rfl (.c (j:=0) rfl .n)) ?_)
     rintro ⟨w326,w427⟩ -
     dsimp only [aq,nq,cq]
     refine e_one 13 (zv kr rfl rfl rfl rfl rfl sz28 rfl (.t4 .nil) ?_)
     refine zT kr<|zN<|zd<|za<|e_mv rfl<|e_p (zK (z:=(((i+1):Nat):Int)) rfl rfl (w64 om))<|e_p (zb rfl)<|zf<|zZ ((i+1),w326,w427) (show (k+1 - Q.length)≤(i+1)∧(i+1)≤max (k+1 - Q.length) (min k (P.length - 1)+1) from by exact ⟨by omega,by omega⟩) (by show k+1 - (i+1)<k+1 - i;omega) ((.of rfl):SubM _ _) (ho:=((.of [0,0] rfl):PickO _ _ _)) ((.e (j:=0) rfl (by rw [Po.cv_step _ _ hi.1]) (.of [7,8,9,10,11] rfl)):SelR _ _ _)
    ·
     refine zea<|zi<|zi<|zw<|zd<|za<|e_mv rfl<|e_mv rfl<|e_ru (zc 0 ty28 rfl rfl (.t4 .nil))<|e_p (zX (j:=k) yc sz28 rfl rfl rfl om)<|zza 1 rfl rfl rfl (zP (r:=rE) (j:=k) (x0:=(some (Po.cv P Q k (k+1 - Q.length) (i - (k+1 - Q.length))))) (γ0:=(su,sv)) rfl rfl (by first|omega|(rw [List.length_map];omega)|(simp only [List.length_set];omega)|(simp;done)|(simp;omega)) rfl rfl sz28 (fun g hr=>qF_e (Holds.get 0 rfl hr))) (fun _=>(.s .z)) (fun _ _=> ?_)
     refine zf<|zN<|zd<|za<|e_p (zK (z:=(((k+1):Nat):Int)) rfl rfl (w64 om))<|e_mv rfl<|zf<|zZ ((k+1),(A.set k (some (Po.cv P Q k (k+1 - Q.length) (i - (k+1 - Q.length)))))) (show (k+1)≤P.length+Q.length - 1∧(A.set k (some (Po.cv P Q k (k+1 - Q.length) (i - (k+1 - Q.length))))).length=P.length+Q.length - 1∧∀j,j<(k+1)→(A.set k (some (Po.cv P Q k (k+1 - Q.length) (i - (k+1 - Q.length))))).getD j none=some (Po.pc P Q j) from by exact ⟨by omega,by rw [List.length_set];exact hAl,Po.set_step hA om (Po.pc_end hi.1 ass hi.2 hPQ.1)⟩) (by show P.length+Q.length - 1 - (k+1)<P.length+Q.length - 1 - k;omega) ((.of rfl):SubM _ _) (ho:=((.c (i:=1) rfl .n):PickO _ _ _)) ((.of [2,3,4,5] rfl):SelR _ _ _)
   ·
    refine zea<|zi<|zi<|zw<|zd<|ze<|za<|e_mv rfl<|zV 0 rfl .z<|zk rfl rfl (.c rfl .n) ce31 (zEa (p1:=some ⟨b8,0,none⟩) (n1:=(P.length+Q.length - 1)) (c1:=(P.length+Q.length - 1)) (l1:=A) (hn1:=cbo) (hm1:=cbo)) (.c (j:=0) rfl .n) ?_
    rintro ⟨p928,c929⟩ -
    dsimp only [aq,nq,cq]
    refine e_p (zb rfl)<|zf<|zd<|zE ?_
    have hv9:=Po.vals_mul hP hQ om rfl hAl (fun j hj=>hA j om)
    exact zA Tryz.results17 (p928,c929) trivial (zp rfl) (by rw [hv9]) (ho:=(.n:PickO _ _ _)) ((.e (j:=0) rfl (by rw [hv9]) .n):SelR _ _ _)
end Go.Proofs.YtbiaimgafknkmaaGreat.Sp
namespace Go.Proofs.YtbiaimgafknkmaaGreat.Sp
open Go
set_option linter.unusedVariables false
set_option maxRecDepth 100000
set_option maxHeartbeats 8000000
theorem zZc {p1:Option Addr} {n1:Nat} {c1:Nat} {l1:List (Option Rat)} {u1:Wd} {v1:Wd} {x1:Option Rat} (hn1:l1.length=n1) (hm1:n1≤1000) (hm9:n1≤900) (hb1:∀i,yd ((Po.vals l1).getD i 0)≤200000000000) (hb2:∀i,yd ((Po.vals [x1]).getD i 0)≤200000000000) (hs:∀k lo n,lo+n≤k+1→yd (Po.cv (Po.cl (Po.vals l1)) (Po.cl (Po.vals [x1])) k lo n)≤200000000000):Con yb 19 [.slice p1 n1 c1,.agg #[u1.b,u1.l,v1.b,v1.l]] [] [slF rE p1 c1 l1,eF u1 v1 x1] (Y:=(Option Addr)×Nat) (fun y=>True) (fun y=> .slice (y.1) ((Po.mul (Po.vals l1) (Po.vals [x1])).length) (y.2)) (fun y=>[]) (fun y=>[slF rQ (y.1) (y.2) (Po.mul (Po.vals l1) (Po.vals [x1]))]):=by
 refine zl Tryz.func19 rfl rfl rfl (fun c=> ?_)
 show RunC _ _ _ _ _ [(0,.slice p1 n1 c1),(1,.agg #[u1.b,u1.l,v1.b,v1.l])] [] [slF rE p1 c1 l1,eF u1 v1 x1]
 refine zQ 0 rfl (fun hL0=> ?_)
 refine ze<|za<|zH rfl rfl (zO rfl rfl) (fun b1=> ?_)
 refine e_p (zb rfl)<|zf<|zd<|ze<|za<|e_mv rfl<|e_ru (zc 0 ty28 rfl rfl (.t4 .nil))<|zsa rfl rfl (zCa (r:=rE) (k:=1) ya inf28 rfl dd dd dd (.c (x:=x1) (cs:=[u1.b,u1.l,v1.b,v1.l]) (u1,v1) rfl rfl rfl (fun g hr=>Holds.get 1 rfl hr) .n)) (fun b2 _=> ?_)
 refine zV 0 rfl .z<|zk rfl rfl (.c rfl (.c rfl .n)) ce17 (zvc (p1:=p1) (n1:=n1) (c1:=c1) (l1:=l1) (p2:=some ⟨b2,0,none⟩) (n2:=1) (c2:=1) (l2:=[x1]) (hn1:=ass) (hm1:=ass) (hn2:=cbo) (hm2:=cbo) (hm12:=cbo) (hb1:=ass) (hb2:=ass) (hs:=ass)) (.c (j:=1) rfl (.c (j:=0) rfl .n)) ?_
 rintro ⟨p93,c94⟩ -
 dsimp only [aq,nq,cq]
 refine e_p (zb rfl)<|zf<|zd<|zE ?_
 exact zA Tryz.results19 (p93,c94) trivial (zp rfl) rfl (ho:=(.n:PickO _ _ _)) ((.c (j:=0) rfl .n):SelR _ _ _)
theorem zGd {p1:Option Addr} {n1:Nat} {c1:Nat} {l1:List (Option Rat)} {u1:Wd} {v1:Wd} {x1:Option Rat} (hn1:l1.length=n1) (hm1:n1≤1000) (hx:yd (x1.getD 0)≤200000000000) (hb1:∀i,yd ((l1.getD i none).getD 0)≤200000000000) (hs:∀i,yd (Po.ev (x1.getD 0) ((Po.vals l1).drop i))≤200000000000):Con yb 21 [.slice p1 n1 c1,.agg #[u1.b,u1.l,v1.b,v1.l]] [] [slF rE p1 c1 l1,eF u1 v1 x1] (Y:=Wd×Wd) (fun y=>True) (fun y=> .agg #[y.1.b,y.1.l,y.2.b,y.2.l]) (fun y=>[]) (fun y=>[qF true y.1 y.2 (Po.ev (x1.getD 0) (Po.vals l1))]):=by
 refine zl Tryz.func21 rfl rfl rfl (fun c=> ?_)
 show RunC _ _ _ _ _ [(0,.slice p1 n1 c1),(1,.agg #[u1.b,u1.l,v1.b,v1.l])] [] [slF rE p1 c1 l1,eF u1 v1 x1]
 refine zQ 0 rfl (fun hL0=> ?_)
 refine ze<|za<|zH rfl rfl (zO rfl rfl) (fun b1=> ?_)
 refine zH rfl rfl (zr zr28 rfl) (fun b2=> ?_)
 refine zf<|zd<|ze<|zVe (qF x1.isSome u1 v1 (x1.getD 0)) (eF_weak 1 rfl)<|za<|zk rfl rfl (.n) ce50 (zEb) (.n) ?_
 rintro ⟨w33,w44⟩ -
 dsimp only [aq,nq,cq]
 refine zH rfl rfl (zr zr28 rfl) (fun b5=> ?_)
 refine zj 0 rfl rfl rfl rfl rfl sz28 rfl (.t4 .nil) .z<|zf<|zd<|ze<|ze<|za<|e_mv rfl<|e_p (zD ya rfl)<|e_p (zY (z:=(((n1:Nat):Int) - 1)) rfl rfl (w64 om))<|e_p (zb rfl)<|zf<|zd<|zy<|zfa (X:=Nat×Wd×Wd) (fun x:Nat×Wd×Wd=>x.1≤n1) (fun x=>[(6,.int .i64 (((x.1:Nat):Int) - 1)),(5,.pointer (some ⟨b5,0,none⟩)),(4,.pointer (some ⟨b2,0,none⟩)),(3,.pointer (some ⟨b1,0,none⟩)),(0,.slice p1 n1 c1)]) (fun x=>[boxA b5 28 (cw [x.2.1,x.2.2]),boxA b2 28 (cw [wz,wz]),boxA b1 28 (cw [u1,v1])]) (fun x=>[qF true x.2.1 x.2.2 (Po.ev (x1.getD 0) ((Po.vals l1).drop x.1)),qF true w33 w44 ((0:Int):Rat),qF x1.isSome u1 v1 (x1.getD 0),slF rE p1 c1 l1,eF u1 v1 x1]) (fun x:Nat×Wd×Wd=>x.1) (n1,w33,w44) (show n1≤n1 from by exact Nat.le_refl _) ((.of rfl):SubM _ _) (ho:=((.of [0,0,0] rfl):PickO _ _ _)) ((.e (j:=0) rfl (by rw [Po.ev_top hn1]) (.of [0,1,2,3] rfl)):SelR _ _ _) ?_
 rintro ⟨i,su,sv⟩ hI
 replace hI:i≤n1:=hI
 try dsimp only [cw]
 refine ze<|ze<|za<|e_mv rfl<|e_p (zUa rfl rfl)<|zf<|zd<|zC rfl (fun h12=> ?_) (fun h12=> ?_)
 ·
  refine zB<|zd<|ze<|zy<|zU (OW:=[boxA b5 28 (cw [su,sv])]) (O:=[boxA b2 28 (cw [wz,wz]),boxA b1 28 (cw [u1,v1])]) 8 mixed (.block (.then (.then (.block (.then .ret))))) kr<|e_uw 0 rfl rfl (zc 0 ty28 rfl rfl (.t4 .nil))<|e_uw 1 rfl rfl (zc 2 ty28 rfl rfl (.t4 .nil))<|e_dm 3 rfl rfl rfl<|e_dm 4 rfl rfl rfl ?_
  have e6:((((i:Nat):Int) - 1):Int)=(((i - 1):Nat):Int):=by omega
  rw [e6]
  refine d_vl 5 rfl rfl kr kr rfl rfl (zla (x0:=(l1.getD (i - 1) (none:Option Rat))) 3 (i - 1) rfl ya sz28 rfl (by first|rfl|assumption|(simp;done)|omega) rfl rfl (gD (d:=(none:Option Rat)) om)) ?_
  rintro ⟨b7,o8,w9,w10⟩ -
  dsimp only [aq,nq,cq]
  refine zVa open_rE<|e_u 6 rfl rfl (zS (j:=0) 0 ty28 rfl rfl rfl (.t4 .nil))<|e_one 2 (zu rfl rfl rfl rfl (.c rfl (.c rfl .n)) ce51 (zuc (k1:=true) (u1:=su) (v1:=sv) (q1:=(Po.ev (x1.getD 0) ((Po.vals l1).drop i))) (k2:=x1.isSome) (u2:=u1) (v2:=v1) (q2:=(x1.getD 0)) (hl:=by have h1:=hs i;omega)) (.c (j:=3) rfl (.c (j:=5) rfl .n)) ?_)
  rintro ⟨w311,w412⟩ -
  dsimp only [aq,nq,cq]
  refine e_one 7 (zu rfl rfl rfl rfl (.c rfl (.c rfl .n)) ce47 (zGb (k1:=true) (u1:=w311) (v1:=w412) (q1:=(Po.ev (x1.getD 0) ((Po.vals l1).drop i))*(x1.getD 0)) (k2:=(l1.getD (i - 1) (none:Option Rat)).isSome) (u2:=w9) (v2:=w10) (q2:=((l1.getD (i - 1) (none:Option Rat)).getD 0)) (hl:=by have h1:=hs i;have h2:=Big.hq_mul (Po.ev (x1.getD 0) ((Po.vals l1).drop i)) (x1.getD 0);have h3:=hb1 (i - 1);omega)) (.c (j:=0) rfl (.c (j:=2) rfl .n)) ?_)
  rintro ⟨w313,w414⟩ -
  dsimp only [aq,nq,cq]
  refine e_one 8 (zv kr rfl rfl rfl rfl rfl sz28 rfl (.t4 .nil) ?_)
  refine zT kr<|zN<|zd<|za<|e_mv rfl<|e_p (zY (z:=((((i - 1):Nat):Int) - 1)) rfl rfl (w64 om))<|e_p (zb rfl)<|zf<|zZ ((i - 1),w313,w414) (show (i - 1)≤n1 from by omega) om ((.e rfl (by first|rfl|(congr 1;done)|(congr 1;omega)) (.of rfl)):SubM _ _) (ho:=((.of [0,0,0] rfl):PickO _ _ _)) ((.e (j:=0) rfl (by rw [← Po.vals_get,Po.ev_step om (by rw [Po.vals_len];omega)]) (.of [6,7,8,9] rfl)):SelR _ _ _)
 ·
  refine zea<|zi<|zi<|zw<|zd<|ze<|za<|e_ru (zc 0 ty28 rfl rfl (.t4 .nil))<|zk rfl rfl (.c rfl .n) ce53 (zaa (k1:=true) (u1:=su) (v1:=sv) (q1:=(Po.ev (x1.getD 0) ((Po.vals l1).drop i)))) (.c (j:=0) rfl .n) ?_
  rintro ⟨w315,w416⟩ -
  dsimp only [aq,nq,cq]
  refine zj 1 rfl rfl rfl rfl rfl sz28 rfl (.t4 .nil) (.s .z)<|zf<|zd<|zE ?_
  have hi0:i=0:=by omega
  have hv9:(Po.ev (x1.getD 0) ((Po.vals l1).drop i))=Po.ev (x1.getD 0) (Po.vals l1):=by rw [hi0];rfl
  exact zA Tryz.results21 (w315,w416) trivial (zn 1 ty28 rfl rfl (.t4 .nil)) rfl (ho:=(.n:PickO _ _ _)) ((.e (j:=0) rfl (by rw [← hv9]) .n):SelR _ _ _)
theorem zKc {p1:Option Addr} {n1:Nat} {c1:Nat} {l1:List (Option Rat)} (hn1:l1.length=n1) (hm1:n1≤1000) (hb1:∀i,yd ((l1.getD i none).getD 0)≤200000000000):Con yb 25 [.slice p1 n1 c1] [] [slF rE p1 c1 l1] (Y:=(Option Addr)×Nat) (fun y=>True) (fun y=> .slice (y.1) ((Po.der (Po.vals l1)).length) (y.2)) (fun y=>[]) (fun y=>[slF rQ (y.1) (y.2) (Po.der (Po.vals l1))]):=by
 refine zl Tryz.func25 rfl rfl rfl (fun c=> ?_)
 show RunC _ _ _ _ _ [(0,.slice p1 n1 c1)] [] [slF rE p1 c1 l1]
 refine zQ 0 rfl (fun hL0=> ?_)
 refine ze<|za<|e_p (zb rfl)<|zf<|zd<|ze<|za<|e_p (zb rfl)<|zf<|zd<|ze<|ze<|zrc 28 rQ<|za<|e_p (zb rfl)<|zf<|zd<|zy<|zfa (X:=Nat×(Option Addr)×Nat×(List Rat)) (fun x:Nat×(Option Addr)×Nat×(List Rat)=>1≤x.1∧x.1≤max 1 n1∧x.2.2.2=Po.gen (Po.dg l1) (x.1 - 1)) (fun x=>[(3,.slice (x.2.1) (x.2.2.2.length) (x.2.2.1)),(4,.int .i64 ((x.1:Nat):Int)),(2,.slice none 0 0),(0,.slice p1 n1 c1)]) (fun x=>[rowA 28 rQ (x.2.1) (x.2.2.1) (x.2.2.2)]) (fun x=>[slF rE p1 c1 l1]) (fun x:Nat×(Option Addr)×Nat×(List Rat)=>n1 - x.1) (1,none,0,([]:List Rat)) (show 1≤1∧1≤max 1 n1∧([]:List Rat)=Po.gen (Po.dg l1) (1 - 1) from by exact ⟨by omega,by omega,rfl⟩) ((.e rfl (by first|rfl|(congr 1;omega)|simp_all) (.e rfl (by first|rfl|(congr 1;omega)|simp_all) (.c rfl (.c rfl .n)))):SubM _ _) (ho:=((.e (i:=0) rfl (by first|rfl|(congr 1;omega)|simp_all) .n):PickO _ _ _)) ((.c (j:=0) rfl .n):SelR _ _ _) ?_
 rintro ⟨i,pR,cR,A⟩ hI
 replace hI:1≤i∧i≤max 1 n1∧A=Po.gen (Po.dg l1) (i - 1):=hI
 try dsimp only
 obtain ⟨hi1,hi,hA⟩:=hI
 have hAl:A.length=i - 1:=by rw [hA,Po.gen_len]
 refine ze<|ze<|za<|e_mv rfl<|e_mv rfl<|e_p (zD ya rfl)<|e_p (zba rfl rfl)<|zf<|zd<|zC rfl (fun h1=> ?_) (fun h1=> ?_)
 ·
  refine zB<|zd<|ze<|zy<|zU (OW:=[rowA 28 rQ pR cR A]) (O:=[]) 9 mixed (.block (.then (.then (.block (.then .ret))))) kr<|e_dm 0 rfl rfl rfl<|e_dm 1 rfl rfl rfl<|e_dm 3 rfl rfl rfl<|e_dm 4 rfl rfl rfl<|d_vl 5 rfl rfl kr kr rfl rfl (zla (x0:=(l1.getD i (none:Option Rat))) 0 i rfl ya sz28 rfl (by first|rfl|assumption|(simp;done)|omega) rfl rfl (gD (d:=(none:Option Rat)) om)) ?_
  rintro ⟨b2,o3,w4,w5⟩ -
  dsimp only [aq,nq,cq]
  refine zVa open_rE<|e_u 6 rfl rfl (zS (j:=0) 0 ty28 rfl rfl rfl (.t4 .nil))<|e_one 2 (zu rfl rfl rfl rfl (.c rfl .n) ce59 (zhb (z:=((i:Nat):Int)) (hz:=cbo)) (.n) ?_)
  rintro ⟨w36,w47⟩ -
  dsimp only [aq,nq,cq]
  refine e_one 7 (zu rfl rfl rfl rfl (.c rfl (.c rfl .n)) ce51 (zuc (k1:=true) (u1:=w36) (v1:=w47) (q1:=((((i:Nat):Int):Int):Rat)) (k2:=(l1.getD i (none:Option Rat)).isSome) (u2:=w4) (v2:=w5) (q2:=((l1.getD i (none:Option Rat)).getD 0)) (hl:=by have h1:=hb1 i;have h2:=Big.hq_64 (z:=((i:Nat):Int)) om om;omega)) (.c (j:=0) rfl (.c (j:=2) rfl .n)) ?_)
  rintro ⟨w38,w49⟩ -
  dsimp only [aq,nq,cq]
  refine e_one 8 (zoe rfl rfl rfl rfl (zCa (r:=rQ) (k:=1) yc inf28 rfl dd dd dd (.c (x:=(((((i:Nat):Int):Int):Rat)*((l1.getD i (none:Option Rat)).getD 0))) (cs:=[w38.b,w38.l,w49.b,w49.l]) (w38,w49) rfl rfl rfl (fun g hr=>Holds.get 0 rfl hr) .n)) (fun b10 _=> ?_))
  refine zQb 0 rfl .z<|e_one 9 (zpe (A':=fun v:Option Addr×Nat=>rowA 28 rQ v.1 v.2 (A++([(((((i:Nat):Int):Int):Rat)*((l1.getD i (none:Option Rat)).getD 0))]))) kr rfl rfl rfl (zma 0 rfl yc inf28 dd rfl rfl (by first|rfl|assumption|(simp;done)|omega) rfl (by first|rfl|assumption|(simp;done)|omega) om om) ?_)
  rintro ⟨p11,c12⟩ -
  dsimp only [aq,nq,cq]
  refine e_pv 10 rfl rfl (zb rfl)<|zT kr<|zN<|zd<|za<|e_mv rfl<|e_p (zK (z:=(((i+1):Nat):Int)) rfl rfl (w64 om))<|e_p (zb rfl)<|zf<|zZ ((i+1),p11,c12,(A++([(((((i:Nat):Int):Int):Rat)*((l1.getD i (none:Option Rat)).getD 0))]))) (show 1≤(i+1)∧(i+1)≤max 1 n1∧(A++([(((((i:Nat):Int):Int):Rat)*((l1.getD i (none:Option Rat)).getD 0))]))=Po.gen (Po.dg l1) ((i+1) - 1) from by exact ⟨by omega,by omega,by rw [hA];exact Po.dg_step hi1⟩) (by show n1 - (i+1)<n1 - i;omega) ((.e rfl (by simp) (.of rfl)):SubM _ _) (ho:=((.c (i:=0) rfl .n):PickO _ _ _)) ((.c (j:=6) rfl .n):SelR _ _ _)
 ·
  refine zea<|zi<|zi<|zw<|zd<|ze<|zad 0 rfl .z<|za<|e_mv rfl<|zra (addQE 0 rfl)<|zk rfl rfl (.c rfl .n) ce31 (zEa (p1:=pR) (n1:=A.length) (c1:=cR) (l1:=(A.map some)) (hn1:=by exact List.length_map _) (hm1:=cbo)) (.c (j:=0) rfl .n) ?_
  rintro ⟨p913,c914⟩ -
  dsimp only [aq,nq,cq]
  refine e_p (zb rfl)<|zf<|zd<|zE ?_
  have hv9:Po.cl (Po.vals (A.map some))=(Po.der (Po.vals l1)):=by rw [hA];exact Po.dg_der hn1 om
  exact zA Tryz.results25 (p913,c914) trivial (zp rfl) (by rw [hv9]) (ho:=(.n:PickO _ _ _)) ((.e (j:=0) rfl (by rw [hv9]) .n):SelR _ _ _)
end Go.Proofs.YtbiaimgafknkmaaGreat.Sp
namespace Go.Proofs.YtbiaimgafknkmaaGreat.Po
open Go.Proofs.YtbiaimgafknkmaaGreat.Big
def dok (Q:List Rat):Nat→List Rat→List Rat→Prop
  |0,_,_=>True
  |n+1,a,r=>(bd 60000000000 a∧bd 60000000000 r)∧(Q.length≤r.length→dok Q n (add a (dt Q r)) (sub r (mul (dt Q r) Q)))
theorem dv_yes {Q a r:List Rat} {f:Nat} (h:Q.length≤r.length) (hf:0<f):dv Q f a r=dv Q (f - 1) (add a (dt Q r)) (sub r (mul (dt Q r) Q)):=by
  obtain ⟨n,rfl⟩:∃n,f=n+1:=⟨f - 1,by omega⟩
  rw [Nat.add_sub_cancel]
  conv=>lhs;unfold dv
  rw [if_neg (by omega)]
theorem dv_no {Q a r:List Rat} {f:Nat} (h:r.length<Q.length):dv Q f a r=(a,r):=by
  cases f with
  |zero=>rfl
  |succ n=>unfold dv;rw [if_pos h]
theorem dok_bd {Q a r:List Rat} {f:Nat} (h:dok Q f a r) (hf:0<f):bd 60000000000 a∧bd 60000000000 r:=by
  obtain ⟨n,rfl⟩:∃n,f=n+1:=⟨f - 1,by omega⟩
  exact h.1
theorem dok_yes {Q a r:List Rat} {f:Nat} (h:dok Q f a r) (hl:Q.length≤r.length) (hf:0<f):dok Q (f - 1) (add a (dt Q r)) (sub r (mul (dt Q r) Q)):=by
  obtain ⟨n,rfl⟩:∃n,f=n+1:=⟨f - 1,by omega⟩
  exact h.2 hl
theorem vals_mono {A:List (Option Rat)} {s:Nat} {k:Rat} (hn:A.length=s+1) (h:∀j,j<s+1→A.getD j none=some ((0:Int):Rat)):vals (A.set s (some k))=mono s k:=by
  unfold mono
  refine vals_gen (by rw [List.length_set];exact hn) fun j hj=> ?_
  rw [List.getD_eq_getElem?_getD,List.getElem?_set]
  by_cases e:s=j
  · subst e;rw [if_pos rfl,if_pos (by omega),if_pos rfl];rfl
  · rw [if_neg e,←List.getD_eq_getElem?_getD,h j hj,if_neg (fun k=>e k.symm)];rfl
theorem add_len (p q:List Rat):(add p q).length≤max p.length q.length:=by
  unfold add
  exact Nat.le_trans (cl_le_len _) (by rw [gen_len];exact Nat.le_refl _)
theorem dt_len (q r:List Rat):(dt q r).length=r.length - q.length+1:=by
  unfold dt mono;rw [gen_len]
def dq (p q:List Rat):List Rat:=if (cl q).length=0 then [] else (divp p q).1
def dr (p q:List Rat):List Rat:=if (cl q).length=0 then [] else (divp p q).2
def dc (q:List Rat):Int:=if (cl q).length=0 then 14 else 0
theorem dt_cv_hq {Q r:List Rat} (hr:bd 60000000000 r) (hQ:bd 60000000000 Q) (k lo n:Nat):hq (cv (cl (dt Q r)) Q k lo n)≤200000000000:=by
  refine Nat.le_trans (cv_mono_hq (s:=r.length - Q.length) (k0:=lead r / lead Q) (K:=120000000000) (L:=60000000000) (fun i=>by rw [cl_get];exact mono_get _ _ i) ?_ hQ k lo n) (by decide)
  have h:=dt_bd hr hQ (r.length - Q.length)
  unfold dt at h
  rw [mono_get,if_pos rfl] at h
  exact h
end Go.Proofs.YtbiaimgafknkmaaGreat.Po
namespace Go.Proofs.YtbiaimgafknkmaaGreat.Sp
open Go
set_option linter.unusedVariables false
set_option maxRecDepth 100000
set_option maxHeartbeats 8000000
theorem zxb {p1:Option Addr} {n1:Nat} {c1:Nat} {l1:List (Option Rat)} {p2:Option Addr} {n2:Nat} {c2:Nat} {l2:List (Option Rat)} (hn1:l1.length=n1) (hm1:n1≤1000) (hn2:l2.length=n2) (hm2:n2≤1000) (hm12:n1+n2≤400) (hb2:∀i,yd ((Po.vals l2).getD i 0)≤60000000000) (hok:Po.dok (Po.cl (Po.vals l2)) ((Po.cl (Po.vals l1)).length+1) [] (Po.cl (Po.vals l1))):Con yb 26 [.slice p1 n1 c1,.slice p2 n2 c2] [] [slF rE p1 c1 l1,slF rE p2 c2 l2] (Y:=(Option Addr)×Nat×(Option Addr)×Nat) (fun y=>True) (fun y=> .tuple #[.slice (y.1) ((Po.dq (Po.vals l1) (Po.vals l2)).length) (y.2.1),.slice (y.2.2.1) ((Po.dr (Po.vals l1) (Po.vals l2)).length) (y.2.2.2),.int .i64 (Po.dc (Po.vals l2))]) (fun y=>[]) (fun y=>[slF rQ (y.1) (y.2.1) (Po.dq (Po.vals l1) (Po.vals l2)),slF rQ (y.2.2.1) (y.2.2.2) (Po.dr (Po.vals l1) (Po.vals l2))]):=by
 refine zl Tryz.func26 rfl rfl rfl (fun c=> ?_)
 show RunC _ _ _ _ _ [(0,.slice p1 n1 c1),(1,.slice p2 n2 c2)] [] [slF rE p1 c1 l1,slF rE p2 c2 l2]
 refine zQ 0 rfl (fun hL0=> ?_)
 refine zQ 1 rfl (fun hL1=> ?_)
 refine ze<|za<|e_p (zb rfl)<|e_p (zb rfl)<|e_p (zb rfl)<|zf<|zd<|ze<|za<|e_mv rfl<|zk rfl rfl (.c rfl .n) ce31 (zEa (p1:=p1) (n1:=n1) (c1:=c1) (l1:=l1) (hn1:=ass) (hm1:=ass)) (.c (j:=0) rfl .n) ?_
 rintro ⟨p91,c92⟩ -
 dsimp only [aq,nq,cq]
 refine e_mv rfl<|zk rfl rfl (.c rfl .n) ce31 (zEa (p1:=p2) (n1:=n2) (c1:=c2) (l1:=l2) (hn1:=ass) (hm1:=ass)) (.c (j:=2) rfl .n) ?_
 rintro ⟨p93,c94⟩ -
 dsimp only [aq,nq,cq]
 refine e_p (zb rfl)<|e_p (zb rfl)<|zf<|zd<|ze<|ze ?_
 obtain ⟨P,hP⟩:∃z,z=(Po.cl (Po.vals l1)):=⟨_,rfl⟩
 have e5:(Po.cl (Po.vals l1):List Rat)=P:=by exact hP.symm
 rw [e5]
 obtain ⟨Q,hQ⟩:∃z,z=(Po.cl (Po.vals l2)):=⟨_,rfl⟩
 have e6:(Po.cl (Po.vals l2):List Rat)=Q:=by exact hQ.symm
 rw [e6]
 have hPl:P.length≤n1:=by rw [hP,←hn1,←Po.vals_len l1];exact Po.cl_le_len _
 have hQl:Q.length≤n2:=by rw [hQ,←hn2,←Po.vals_len l2];exact Po.cl_le_len _
 have hQc:Po.cl Q=Q:=by rw [hQ];exact Po.cl_cl _
 have hPc:Po.cl P=P:=by rw [hP];exact Po.cl_cl _
 have hbQ:Po.bd 60000000000 Q:=fun i=>by rw [hQ,Po.cl_get];exact hb2 i
 refine za<|e_mv rfl<|e_p (zD ya rfl)<|e_p (zia rfl rfl)<|zf<|zd<|zC rfl (fun h20=> ?_) (fun h20=> ?_)
 ·
  refine ze<|za<|e_p (zb rfl)<|e_p (zb rfl)<|e_p (zb rfl)<|zf<|zd<|zE<|zq<|zJb rQ ?_
  have h0:(Po.cl (Po.vals l2)).length=0:=by rw [← hQ];omega
  have hv8:(Po.dq (Po.vals l1) (Po.vals l2))=[]:=if_pos h0
  have hv9:(Po.dr (Po.vals l1) (Po.vals l2))=[]:=if_pos h0
  have hv7:(Po.dc (Po.vals l2))=14:=if_pos h0
  exact zgc Tryz.results26 (none,0,none,0) trivial (zp rfl) (zp rfl) (zp rfl) (by rw [hv7,hv8,hv9];rfl) (ho:=(.n:PickO _ _ _)) ((.e (j:=0) rfl (by rw [hv8]) (.e (j:=0) rfl (by rw [hv9]) .n)):SelR _ _ _)
 ·
  have hQ0:0<Q.length:=by omega
  have hQn:Q≠[]:=fun e=>by rw [e] at hQ0;exact absurd hQ0 dd
  refine zB<|zd<|ze<|zNf rQ<|za<|e_p (zb rfl)<|zf<|zd<|ze<|zy<|zfa (X:=Nat×(List Rat)×(List Rat)×(Option Addr)×Nat×(Option Addr)×Nat) (fun x:Nat×(List Rat)×(List Rat)×(Option Addr)×Nat×(Option Addr)×Nat=>(x.2.2.1.length<x.1∧x.2.2.1.length≤400∧x.2.1.length≤400)∧Po.dok Q x.1 x.2.1 x.2.2.1∧Po.dv Q P.length [] P=Po.dv Q (x.1 - 1) x.2.1 x.2.2.1) (fun x=>[(7,.slice (x.2.2.2.2.2.1) (x.2.2.1.length) (x.2.2.2.2.2.2)),(8,.slice (x.2.2.2.1) (x.2.1.length) (x.2.2.2.2.1)),(1,.slice p93 ((Q).length) c94),(6,.int .i64 0),(5,.slice none 0 0),(4,.slice none 0 0)]) (fun x=>[]) (fun x=>[slF rQ (x.2.2.2.1) (x.2.2.2.2.1) (x.2.1),slF rQ (x.2.2.2.2.2.1) (x.2.2.2.2.2.2) (x.2.2.1),slF rQ none 0 ([]),slF rQ p93 c94 Q,slF rQ p91 c92 P,slF rE p1 c1 l1,slF rE p2 c2 l2]) (fun x:Nat×(List Rat)×(List Rat)×(Option Addr)×Nat×(Option Addr)×Nat=>x.1) ((P.length+1),([]:List Rat),P,none,0,p91,c92) (show (P.length<(P.length+1)∧P.length≤400∧([]:List Rat).length≤400)∧Po.dok Q (P.length+1) ([]:List Rat) P∧Po.dv Q P.length [] P=Po.dv Q ((P.length+1) - 1) ([]:List Rat) P from by exact ⟨by simp;omega,by rw [hP,hQ];exact hok,rfl⟩) ((.e rfl (by first|rfl|(congr 1;omega)|simp_all) (.e rfl (by first|rfl|(congr 1;omega)|simp_all) (.of rfl))):SubM _ _) (ho:=(.n:PickO _ _ _)) ((.e (j:=0) rfl rfl (.e (j:=2) rfl rfl (.of [0,1,2,3,4] rfl))):SelR _ _ _) ?_
  rintro ⟨f,a,r,pa,ca,pr,cr⟩ hI
  replace hI:(r.length<f∧r.length≤400∧a.length≤400)∧Po.dok Q f a r∧Po.dv Q P.length [] P=Po.dv Q (f - 1) a r:=hI
  try dsimp only
  obtain ⟨⟨hf,hrl,hal⟩,hdk,hdv⟩:=hI
  refine ze<|ze<|za<|e_mv rfl<|e_p (zD ya rfl)<|e_mv rfl<|e_p (zD ya rfl)<|e_p (zUa rfl rfl)<|zf<|zd<|zC rfl (fun h25=> ?_) (fun h25=> ?_)
  ·
   refine zB<|zd<|zy<|ze<|za<|e_mv rfl<|e_p (zD ya rfl)<|e_mv rfl<|e_p (zD ya rfl)<|e_p (zY (z:=(((r.length:Nat):Int) - (((Q).length:Nat):Int))) rfl rfl (w64 om)) ?_
   have e7:((((r.length:Nat):Int) - (((Q).length:Nat):Int)):Int)=(((r.length - Q.length):Nat):Int):=by omega
   rw [e7]
   refine e_p (zb rfl)<|zf<|zd<|ze<|zU (OW:=[]) (O:=[]) 17 mixed (.then (.block (.then (.block (.then .ret))))) kr<|e_dm 0 rfl rfl rfl<|e_dm 1 rfl rfl rfl<|e_pv 2 rfl rfl (zD ya rfl)<|e_pv 3 rfl rfl (zY (z:=(((r.length:Nat):Int) - 1)) rfl rfl (w64 om)) ?_
   have e8:((((r.length:Nat):Int) - 1):Int)=(((r.length - 1):Nat):Int):=by omega
   rw [e8]
   refine d_vl 4 rfl rfl kr kr rfl rfl (zla (x0:=(r.getD (r.length - 1) (0:Rat))) 1 (r.length - 1) rfl ya sz28 rfl (by first|rfl|assumption|(simp;done)|omega) rfl rfl (gD (d:=(0:Rat)) om)) ?_
   rintro ⟨b9,o10,w11,w12⟩ -
   dsimp only [aq,nq,cq]
   refine zVa open_rQ<|e_u 5 rfl rfl (zS (j:=0) 0 ty28 rfl rfl rfl (.t4 .nil))<|e_dm 6 rfl rfl rfl<|e_dm 7 rfl rfl rfl<|e_pv 8 rfl rfl (zD ya rfl)<|e_pv 9 rfl rfl (zY (z:=((((Q).length:Nat):Int) - 1)) rfl rfl (w64 om)) ?_
   have e13:(((((Q).length:Nat):Int) - 1):Int)=(((Q.length - 1):Nat):Int):=by omega
   rw [e13]
   refine d_vl 10 rfl rfl kr kr rfl rfl (zla (x0:=((Q).getD (Q.length - 1) (0:Rat))) 5 (Q.length - 1) rfl ya sz28 rfl (by first|rfl|assumption|(simp;done)|omega) rfl rfl (gD (d:=(0:Rat)) om)) ?_
   rintro ⟨b14,o15,w16,w17⟩ -
   dsimp only [aq,nq,cq]
   refine zVa open_rQ<|e_u 11 rfl rfl (zS (j:=0) 0 ty28 rfl rfl rfl (.t4 .nil))<|zrd (m':=[(43,.agg (cw [w16,w17]).toArray),(37,.agg (cw [w11,w12]).toArray),(9,.int .i64 (((r.length - Q.length):Nat):Int)),(7,.slice pr (r.length) cr),(8,.slice pa (a.length) ca),(1,.slice p93 ((Q).length) c94),(6,.int .i64 0),(5,.slice none 0 0),(4,.slice none 0 0)]) (R':=[qF true w16 w17 ((Q).getD (Q.length - 1) (0:Rat)),qF true w11 w12 (r.getD (r.length - 1) (0:Rat)),slF rQ pa ca a,slF rQ pr cr r,slF rQ none 0 ([]),slF rQ p93 c94 Q,slF rQ p91 c92 P,slF rE p1 c1 l1,slF rE p2 c2 l2]) ((.of rfl):SubM _ _) (List.Perm.refl _) (List.Perm.refl _) ((.of [1,3,4,5,6,7,8,9,10] rfl):SelR _ _ _)<|zBa (X:=Wd×Wd×Nat) (k':=0) (L':=(lb 19 524287)) (fun (u12_1,u12_2,u16_1)=>([(10,.pointer (some ⟨u16_1,0,none⟩)),(9,.int .i64 (((r.length - Q.length):Nat):Int)),(7,.slice pr (r.length) cr),(8,.slice pa (a.length) ca),(1,.slice p93 ((Q).length) c94),(6,.int .i64 0),(5,.slice none 0 0),(4,.slice none 0 0)],[boxA u16_1 28 (cw [u12_1,u12_2])],[],[qF true u12_1 u12_2 ((r.getD (r.length - 1) (0:Rat)) / ((Q).getD (Q.length - 1) (0:Rat))),qF true w16 w17 ((Q).getD (Q.length - 1) (0:Rat)),qF true w11 w12 (r.getD (r.length - 1) (0:Rat)),slF rQ pa ca a,slF rQ pr cr r,slF rQ none 0 ([]),slF rQ p93 c94 Q,slF rQ p91 c92 P,slF rE p1 c1 l1,slF rE p2 c2 l2])) ?_ (fun hD0=> ?_)
   ·
    rintro ⟨u12_1,u12_2,u16_1⟩
    dsimp only [cw]
    refine zT kr<|zd<|ze<|za<|e_mv rfl<|e_p (zK (z:=((((r.length - Q.length)+1):Nat):Int)) rfl rfl (w64 om)) ?_
    have e18:(((((r.length - Q.length)+1):Nat):Int):Int)=(((r.length - Q.length+1):Nat):Int):=by omega
    rw [e18]
    refine zsa rfl rfl (zXa (r:=rE) (k:=(r.length - Q.length+1)) (x0:=none) (γ0:=(wz,wz)) ya inf28 rfl rfl rfl rfl om om rfl (fun g _=>eF_wz g) dd) (fun b19 _=> ?_)
    refine e_p (zb rfl)<|zf<|zd<|ze<|ze<|za<|e_mv rfl<|e_p (zD ya rfl)<|e_mv rfl<|zf<|zd<|zy<|zfa (X:=Nat×(List (Option Rat))) (fun x:Nat×(List (Option Rat))=>x.1≤r.length - Q.length+1∧x.2.length=r.length - Q.length+1∧∀j,j<x.1→x.2.getD j none=some ((0:Int):Rat)) (fun x=>[(52,.int .i64 ((x.1:Nat):Int)),(51,.int .i64 (((r.length - Q.length+1):Nat):Int)),(12,.slice (some ⟨b19,0,none⟩) (r.length - Q.length+1) (r.length - Q.length+1)),(10,.pointer (some ⟨u16_1,0,none⟩)),(9,.int .i64 (((r.length - Q.length):Nat):Int)),(7,.slice pr (r.length) cr),(8,.slice pa (a.length) ca),(1,.slice p93 ((Q).length) c94),(6,.int .i64 0),(5,.slice none 0 0),(4,.slice none 0 0)]) (fun x=>[rowA 28 rE (some ⟨b19,0,none⟩) (r.length - Q.length+1) (x.2),boxA u16_1 28 (cw [u12_1,u12_2])]) (fun x=>[qF true u12_1 u12_2 ((r.getD (r.length - 1) (0:Rat)) / ((Q).getD (Q.length - 1) (0:Rat))),qF true w16 w17 ((Q).getD (Q.length - 1) (0:Rat)),qF true w11 w12 (r.getD (r.length - 1) (0:Rat)),slF rQ pa ca a,slF rQ pr cr r,slF rQ none 0 ([]),slF rQ p93 c94 Q,slF rQ p91 c92 P,slF rE p1 c1 l1,slF rE p2 c2 l2]) (fun x:Nat×(List (Option Rat))=>r.length - Q.length+1 - x.1) (0,List.replicate (r.length - Q.length+1) none) (show 0≤r.length - Q.length+1∧(List.replicate (r.length - Q.length+1) none).length=r.length - Q.length+1∧∀j,j<0→(List.replicate (r.length - Q.length+1) none).getD j none=some ((0:Int):Rat) from by exact ⟨Nat.zero_le _,List.length_replicate,fun j hj=>by omega⟩) ((.e rfl (by first|rfl|(congr 1;omega)|simp_all) (.of rfl)):SubM _ _) (ho:=((.e (i:=0) rfl (by first|rfl|(congr 1;omega)|simp_all) (.c (i:=0) rfl .n)):PickO _ _ _)) ((.of [0,1,2,3,4,5,6,7,8,9] rfl):SelR _ _ _) ?_
    rintro ⟨i,A⟩ hJ
    replace hJ:i≤r.length - Q.length+1∧A.length=r.length - Q.length+1∧∀j,j<i→A.getD j none=some ((0:Int):Rat):=hJ
    try dsimp only [cw]
    refine ze<|za<|e_p (zba rfl rfl)<|zf<|zd<|ze<|zC rfl (fun h20=> ?_) (fun h20=> ?_)
    ·
     refine zB<|zd<|ze<|zy<|ze<|za<|e_mv rfl<|e_p (zb rfl)<|zf<|zd<|za<|e_mv rfl<|e_mv rfl<|zk rfl rfl (.n) ce50 (zEb) (.n) ?_
     rintro ⟨w321,w422⟩ -
     dsimp only [aq,nq,cq]
     refine e_p (zX (j:=i) ya sz28 rfl rfl rfl om)<|zza 0 rfl rfl rfl (zP (r:=rE) (j:=i) (x0:=(some ((0:Int):Rat))) (γ0:=(w321,w422)) rfl rfl (by first|omega|(rw [List.length_map];omega)|(simp only [List.length_set];omega)|(simp;done)|(simp;omega)) rfl rfl sz28 (fun g hr=>qF_e (Holds.get 0 rfl hr))) (fun _=> .z) (fun _ _=> ?_)
     refine zf<|zN<|zd<|za<|e_p (zK (z:=(((i+1):Nat):Int)) rfl rfl (w64 om))<|e_mv rfl<|zf<|zZ ((i+1),(A.set i (some ((0:Int):Rat)))) (show (i+1)≤r.length - Q.length+1∧(A.set i (some ((0:Int):Rat))).length=r.length - Q.length+1∧∀j,j<(i+1)→(A.set i (some ((0:Int):Rat))).getD j none=some ((0:Int):Rat) from by exact ⟨by omega,by rw [List.length_set];exact hJ.2.1,Po.set_step (g:=fun _=>((0:Int):Rat)) hJ.2.2 om rfl⟩) (by show r.length - Q.length+1 - (i+1)<r.length - Q.length+1 - i;omega) ((.of rfl):SubM _ _) (ho:=((.of [0,0] rfl):PickO _ _ _)) ((.of [1,2,3,4,5,6,7,8,9,10] rfl):SelR _ _ _)
    ·
     refine zea<|zi<|zi<|zw<|zd<|ze<|za<|e_mv rfl<|e_mv rfl<|e_ru (zc 1 ty28 rfl rfl (.t4 .nil))<|e_p (zX (j:=(r.length - Q.length)) ya sz28 rfl rfl rfl om)<|zza 0 rfl rfl rfl (zP (r:=rE) (j:=(r.length - Q.length)) (x0:=(some ((r.getD (r.length - 1) (0:Rat)) / ((Q).getD (Q.length - 1) (0:Rat))))) (γ0:=(u12_1,u12_2)) rfl rfl (by first|omega|(rw [List.length_map];omega)|(simp only [List.length_set];omega)|(simp;done)|(simp;omega)) rfl rfl sz28 (fun g hr=>qF_e (Holds.get 0 rfl hr))) (fun _=> .z) (fun _ _=> ?_)
     refine zf<|zd<|ze ?_
     have hB:Po.vals (A.set (r.length - Q.length) (some ((r.getD (r.length - 1) (0:Rat)) / ((Q).getD (Q.length - 1) (0:Rat)))))=Po.dt Q r:=Po.vals_mono hJ.2.1 (fun j hj=>hJ.2.2 j om)
     have hBl:(A.set (r.length - Q.length) (some ((r.getD (r.length - 1) (0:Rat)) / ((Q).getD (Q.length - 1) (0:Rat))))).length=r.length - Q.length+1:=by rw [List.length_set];exact hJ.2.1
     obtain ⟨hba,hbr⟩:=Po.dok_bd hdk om
     have hml:(Po.mul (Po.dt Q r) Q).length≤1000:=by rw [← Po.mul_mc];unfold Po.mc;exact Nat.le_trans (Po.cl_le_len _) (by rw [Po.gen_len,Po.dt_len];omega)
     refine za<|e_mv rfl<|e_mv rfl<|zra (addQE 3 rfl)<|zV 0 rfl .z<|zk rfl rfl (.c rfl (.c rfl .n)) ce13 (zFf (p1:=pa) (n1:=a.length) (c1:=ca) (l1:=(a.map some)) (p2:=some ⟨b19,0,none⟩) (n2:=(r.length - Q.length+1)) (c2:=(r.length - Q.length+1)) (l2:=(A.set (r.length - Q.length) (some ((r.getD (r.length - 1) (0:Rat)) / ((Q).getD (Q.length - 1) (0:Rat)))))) (hn1:=by exact List.length_map _) (hm1:=cbo) (hn2:=by exact hBl) (hm2:=cbo) (hb:=by intro j;rw [Po.msome,←Po.vals_get,hB];have h1:=hba j;have h2:=Po.dt_bd hbr hbQ j;omega)) (.c (j:=1) rfl (.c (j:=0) rfl .n)) ?_
     rintro ⟨p923,c924⟩ -
     dsimp only [aq,nq,cq]
     have e25:(Po.add (Po.vals (a.map some)) (Po.vals (A.set (r.length - Q.length) (some ((r.getD (r.length - 1) (0:Rat)) / ((Q).getD (Q.length - 1) (0:Rat)))))):List Rat)=Po.add a (Po.dt Q r):=by rw [Po.vals_some,hB]
     rw [e25]
     refine e_p (zb rfl)<|zf<|zd<|za<|e_mv rfl<|e_mv rfl<|e_mv rfl<|zra (addQE 9 rfl)<|zk rfl rfl (.c rfl (.c rfl .n)) ce17 (zvc (p1:=some ⟨b19,0,none⟩) (n1:=(r.length - Q.length+1)) (c1:=(r.length - Q.length+1)) (l1:=(A.set (r.length - Q.length) (some ((r.getD (r.length - 1) (0:Rat)) / ((Q).getD (Q.length - 1) (0:Rat)))))) (p2:=p93) (n2:=(Q).length) (c2:=c94) (l2:=((Q).map some)) (hn1:=by exact hBl) (hm1:=cbo) (hn2:=by exact List.length_map _) (hm2:=cbo) (hm12:=cbo) (hb1:=by rw [hB];intro j;exact Nat.le_trans (Po.dt_bd hbr hbQ j) dd) (hb2:=by rw [Po.vals_some];intro j;exact Nat.le_trans (hbQ j) dd) (hs:=by rw [hB,Po.vals_some,hQc];exact fun k lo n _=>Po.dt_cv_hq hbr hbQ k lo n)) (.c (j:=2) rfl (.c (j:=0) rfl .n)) ?_
     rintro ⟨p926,c927⟩ -
     dsimp only [aq,nq,cq]
     have e28:(Po.mul (Po.vals (A.set (r.length - Q.length) (some ((r.getD (r.length - 1) (0:Rat)) / ((Q).getD (Q.length - 1) (0:Rat)))))) (Po.vals ((Q).map some)):List Rat)=Po.mul (Po.dt Q r) Q:=by rw [Po.vals_some,hB]
     rw [e28]
     refine zra (addQE 9 rfl)<|zra (addQE 1 rfl)<|zk rfl rfl (.c rfl (.c rfl .n)) ce15 (zGf (p1:=pr) (n1:=r.length) (c1:=cr) (l1:=(r.map some)) (p2:=p926) (n2:=(Po.mul (Po.dt Q r) Q).length) (c2:=c927) (l2:=((Po.mul (Po.dt Q r) Q).map some)) (hn1:=by exact List.length_map _) (hm1:=cbo) (hn2:=by exact List.length_map _) (hm2:=by exact hml) (hb:=by intro j;rw [Po.msome,Po.msome];have h1:=hbr j;have h2:=Po.mul_dt_bd hbr hbQ j;omega)) (.c (j:=1) rfl (.c (j:=0) rfl .n)) ?_
     rintro ⟨p929,c930⟩ -
     dsimp only [aq,nq,cq]
     have e31:(Po.sub (Po.vals (r.map some)) (Po.vals ((Po.mul (Po.dt Q r) Q).map some)):List Rat)=Po.sub r (Po.mul (Po.dt Q r) Q):=by rw [Po.vals_some,Po.vals_some]
     rw [e31]
     refine e_p (zb rfl)<|zf<|zN<|zZ ((f - 1),(Po.add a (Po.dt Q r)),(Po.sub r (Po.mul (Po.dt Q r) Q)),p923,c924,p929,c930) (show ((Po.sub r (Po.mul (Po.dt Q r) Q)).length<(f - 1)∧(Po.sub r (Po.mul (Po.dt Q r) Q)).length≤400∧(Po.add a (Po.dt Q r)).length≤400)∧Po.dok Q (f - 1) (Po.add a (Po.dt Q r)) (Po.sub r (Po.mul (Po.dt Q r) Q))∧Po.dv Q P.length [] P=Po.dv Q ((f - 1) - 1) (Po.add a (Po.dt Q r)) (Po.sub r (Po.mul (Po.dt Q r) Q)) from by have h9:=Po.dt_less (r:=r) hQc hQn om;have h8:=Po.add_len a (Po.dt Q r);rw [Po.dt_len] at h8;exact ⟨⟨by omega,by omega,by omega⟩,Po.dok_yes hdk om om,hdv.trans (Po.dv_yes om om)⟩) om ((.of rfl):SubM _ _) (ho:=(.n:PickO _ _ _)) ((.of [5,0,13,14,15,16,17] rfl):SelR _ _ _)
   refine zBa (X:=Wd×Wd×Nat) (k':=2) (L':=(lb 19 131071)) (fun (u12_1,u12_2,u16_1)=>([(10,.pointer (some ⟨u16_1,0,none⟩)),(46,.int .i64 0),(45,.agg (cw [u12_1,u12_2]).toArray),(9,.int .i64 (((r.length - Q.length):Nat):Int)),(7,.slice pr (r.length) cr),(8,.slice pa (a.length) ca),(1,.slice p93 ((Q).length) c94),(6,.int .i64 0),(5,.slice none 0 0),(4,.slice none 0 0)],[boxA u16_1 28 (cw [wz,wz])],[],[qF true u12_1 u12_2 ((r.getD (r.length - 1) (0:Rat)) / ((Q).getD (Q.length - 1) (0:Rat))),qF true w16 w17 ((Q).getD (Q.length - 1) (0:Rat)),qF true w11 w12 (r.getD (r.length - 1) (0:Rat)),slF rQ pa ca a,slF rQ pr cr r,slF rQ none 0 ([]),slF rQ p93 c94 Q,slF rQ p91 c92 P,slF rE p1 c1 l1,slF rE p2 c2 l2])) ?_ (fun hD1=> ?_)
   ·
    rintro ⟨u12_1,u12_2,u16_1⟩
    dsimp only [cw]
    refine zAb 17 kr ?_
    ·
     refine zv kr rfl rfl rfl rfl rfl sz28 rfl (.t4 .nil)<|e_pv 18 rfl rfl (zb rfl) ?_
     exact zda (hD0 (u12_1,u12_2,u16_1)) kr ((.of rfl):SubM _ _) .rfl .rfl ((.of [0,1,2,3,4,5,6,7,8,9] rfl):SelR _ _ _)
   refine zBa (X:=Wd×Wd) (k':=3) (L':=(lb 19 65535)) (fun (u12_1,u12_2)=>([(46,.int .i64 0),(45,.agg (cw [u12_1,u12_2]).toArray),(9,.int .i64 (((r.length - Q.length):Nat):Int)),(7,.slice pr (r.length) cr),(8,.slice pa (a.length) ca),(1,.slice p93 ((Q).length) c94),(6,.int .i64 0),(5,.slice none 0 0),(4,.slice none 0 0)],[],[],[qF true u12_1 u12_2 ((r.getD (r.length - 1) (0:Rat)) / ((Q).getD (Q.length - 1) (0:Rat))),qF true w16 w17 ((Q).getD (Q.length - 1) (0:Rat)),qF true w11 w12 (r.getD (r.length - 1) (0:Rat)),slF rQ pa ca a,slF rQ pr cr r,slF rQ none 0 ([]),slF rQ p93 c94 Q,slF rQ p91 c92 P,slF rE p1 c1 l1,slF rE p2 c2 l2])) ?_ (fun hD2=> ?_)
   ·
    rintro ⟨u12_1,u12_2⟩
    dsimp only [cw]
    refine zAb 16 kr ?_
    ·
     refine zOa rfl rfl rfl rfl (zr zr28 rfl) (fun u16_1 _=> ?_)
     exact zda (hD1 (u12_1,u12_2,u16_1)) kr ((.of rfl):SubM _ _) .rfl .rfl ((.of [0,1,2,3,4,5,6,7,8,9] rfl):SelR _ _ _)
   refine zBa (X:=Nat) (k':=6) (L':=(lb 19 69631)) (fun u16_1=>([(10,.pointer (some ⟨u16_1,0,none⟩)),(43,.agg (cw [w16,w17]).toArray),(37,.agg (cw [w11,w12]).toArray),(9,.int .i64 (((r.length - Q.length):Nat):Int)),(7,.slice pr (r.length) cr),(8,.slice pa (a.length) ca),(1,.slice p93 ((Q).length) c94),(6,.int .i64 0),(5,.slice none 0 0),(4,.slice none 0 0)],[boxA u16_1 28 (cw [wz,wz])],[],[qF true w16 w17 ((Q).getD (Q.length - 1) (0:Rat)),qF true w11 w12 (r.getD (r.length - 1) (0:Rat)),slF rQ pa ca a,slF rQ pr cr r,slF rQ none 0 ([]),slF rQ p93 c94 Q,slF rQ p91 c92 P,slF rE p1 c1 l1,slF rE p2 c2 l2])) ?_ (fun hD3=> ?_)
   ·
    rintro u16_1
    dsimp only [cw]
    refine zAb 12 kr ?_
    ·
     refine zu rfl rfl rfl rfl (.c rfl (.c rfl .n)) ce60 (zLa (k1:=true) (u1:=w11) (v1:=w12) (q1:=(r.getD (r.length - 1) (0:Rat))) (k2:=true) (u2:=w16) (v2:=w17) (q2:=((Q).getD (Q.length - 1) (0:Rat))) (hl:=by have h1:=(Po.dok_bd hdk om).2 (r.length - 1);have h2:=hbQ (Q.length - 1);omega) (hy:=by exact Po.lead_ne hQc hQn)) (.c (j:=1) rfl (.c (j:=0) rfl .n)) ?_
     rintro ⟨u12_1,u12_2⟩ -
     dsimp only [aq,nq,cq]
     refine e_dm 13 rfl rfl rfl<|e_pv 14 rfl rfl (zm rfl rfl)<|e_pv 15 rfl rfl (zm rfl rfl) ?_
     exact zda (hD1 (u12_1,u12_2,u16_1)) kr ((.of rfl):SubM _ _) .rfl .rfl ((.of [0,1,2,3,4,5,6,7,8,9] rfl):SelR _ _ _)
   refine zcd 12 16 kr ?_ ?_
   ·
    refine zu rfl rfl rfl rfl (.c rfl (.c rfl .n)) ce60 (zLa (k1:=true) (u1:=w11) (v1:=w12) (q1:=(r.getD (r.length - 1) (0:Rat))) (k2:=true) (u2:=w16) (v2:=w17) (q2:=((Q).getD (Q.length - 1) (0:Rat))) (hl:=by have h1:=(Po.dok_bd hdk om).2 (r.length - 1);have h2:=hbQ (Q.length - 1);omega) (hy:=by exact Po.lead_ne hQc hQn)) (.c (j:=1) rfl (.c (j:=0) rfl .n)) ?_
    rintro ⟨u12_1,u12_2⟩ -
    dsimp only [aq,nq,cq]
    refine e_dm 13 rfl rfl rfl<|e_pv 14 rfl rfl (zm rfl rfl)<|e_pv 15 rfl rfl (zm rfl rfl) ?_
    exact zda (hD2 (u12_1,u12_2)) kr ((.of rfl):SubM _ _) .rfl .rfl ((.of [0,1,2,3,4,5,6,7,8,9] rfl):SelR _ _ _)
   ·
    refine zOa rfl rfl rfl rfl (zr zr28 rfl) (fun u16_1 _=> ?_)
    exact zda (hD3 u16_1) kr ((.of rfl):SubM _ _) .rfl .rfl ((.of [0,1,2,3,4,5,6,7,8] rfl):SelR _ _ _)
  ·
   refine zea<|zi<|zi<|zw<|zd<|ze<|za<|e_mv rfl<|e_mv rfl<|e_p (zb rfl)<|e_p (zb rfl)<|e_p (zb rfl)<|zf<|zd<|zE ?_
   have h0:¬(Po.cl (Po.vals l2)).length=0:=by rw [← hQ];omega
   have hdn:Po.dv Q P.length [] P=(a,r):=hdv.trans (Po.dv_no om)
   have hv8:(Po.dq (Po.vals l1) (Po.vals l2))=a:=(if_neg h0).trans (by unfold Po.divp;rw [← hQ,←hP,hdn])
   have hv9:(Po.dr (Po.vals l1) (Po.vals l2))=r:=(if_neg h0).trans (by unfold Po.divp;rw [← hQ,←hP,hdn])
   have hv7:(Po.dc (Po.vals l2))=0:=if_neg h0
   exact zgc Tryz.results26 (pa,ca,pr,cr) trivial (zp rfl) (zp rfl) (zp rfl) (by rw [hv7,hv8,hv9]) (ho:=(.n:PickO _ _ _)) ((.e (j:=0) rfl (by rw [hv8]) (.e (j:=1) rfl (by rw [hv9]) .n)):SelR _ _ _)
end Go.Proofs.YtbiaimgafknkmaaGreat.Sp
namespace Go.Proofs.YtbiaimgafknkmaaGreat.Sp
open Go
set_option linter.unusedVariables false
set_option maxRecDepth 100000
set_option maxHeartbeats 8000000
theorem zHd {p1:Option Addr} {n1:Nat} {c1:Nat} {l1:List Rat} {p2:Option Addr} {n2:Nat} {c2:Nat} {l2:List Rat} (hn1:l1.length=n1) (hm1:n1≤1000) (hn2:l2.length=n2) (hm2:n2≤1000) (hb1:∀i,yd (l1.getD i 0)≤500000000000) (hb2:∀i,yd (l2.getD i 0)≤500000000000):Con yb 12 [.slice p1 n1 c1,.slice p2 n2 c2] [] [slF rQ p1 c1 l1,slF rQ p2 c2 l2] (Y:=Unit) (fun y=>True) (fun y=> .bool (decide (l1=l2))) (fun y=>[]) (fun y=>[]):=by
 refine zl Tryz.func12 rfl rfl rfl (fun c=> ?_)
 show RunC _ _ _ _ _ [(0,.slice p1 n1 c1),(1,.slice p2 n2 c2)] [] [slF rQ p1 c1 l1,slF rQ p2 c2 l2]
 refine zQ 0 rfl (fun hL0=> ?_)
 refine zQ 1 rfl (fun hL1=> ?_)
 refine ze<|za<|e_p (zb rfl)<|zf<|zd<|ze<|ze<|za<|e_mv rfl<|e_p (zD ya rfl)<|e_mv rfl<|e_p (zD ya rfl)<|e_p (zfb rfl rfl)<|zf<|zd<|zC rfl (fun hne=> ?_) (fun hne=> ?_)
 ·
  refine ze<|za<|e_p (zb rfl)<|zf<|zd<|zE<|zq ?_
  exact zA Tryz.results12 () trivial (zp rfl) (congrArg Value.bool (decide_eq_false (fun e=>hne (by rw [← hn1,←hn2,e]))).symm.symm) (ho:=(.n:PickO _ _ _)) (.n:SelR _ _ _)
 ·
  refine zB<|zd<|ze<|ze<|za<|e_p (zb rfl)<|zf<|zd<|zy<|zfa (X:=Nat) (fun x:Nat=>x≤n1∧∀j,j<x→l1.getD j 0=l2.getD j 0) (fun x=>[(5,.int .i64 ((x:Nat):Int)),(0,.slice p1 n1 c1),(1,.slice p2 n2 c2)]) (fun x=>[]) (fun x=>[slF rQ p1 c1 l1,slF rQ p2 c2 l2]) (fun x:Nat=>n1 - x) 0 (show 0≤n1∧∀j,j<0→l1.getD j 0=l2.getD j 0 from by exact ⟨Nat.zero_le _,fun j h=>by omega⟩) ((.e rfl (by first|rfl|(congr 1;omega)|simp_all) (.c rfl (.c rfl .n))):SubM _ _) (ho:=(.n:PickO _ _ _)) ((.of [0,1] rfl):SelR _ _ _) ?_
  rintro i hI
  replace hI:i≤n1∧∀j,j<i→l1.getD j 0=l2.getD j 0:=hI
  try dsimp only
  obtain ⟨hi,hall⟩:=hI
  refine ze<|ze<|za<|e_mv rfl<|e_mv rfl<|e_p (zD ya rfl)<|e_p (zba rfl rfl)<|zf<|zd<|zC rfl (fun h1=> ?_) (fun h1=> ?_)
  ·
   refine zB<|zd<|ze<|zy<|ze<|zU (OW:=[]) (O:=[]) 100000 mixed (.then (.block (.then (.then (.block (.then .ret)))))) kr<|e_dm 0 rfl rfl rfl<|e_dm 1 rfl rfl rfl<|d_vl 2 rfl rfl kr kr rfl rfl (zla (x0:=(l1.getD i (0:Rat))) 0 i rfl ya sz28 rfl (by first|rfl|assumption|(simp;done)|omega) rfl rfl (gD (d:=(0:Rat)) om)) ?_
   rintro ⟨b2,o3,w4,w5⟩ -
   dsimp only [aq,nq,cq]
   refine zVa open_rQ<|e_u 3 rfl rfl (zS (j:=0) 0 ty28 rfl rfl rfl (.t4 .nil))<|e_dm 4 rfl rfl rfl<|e_dm 5 rfl rfl rfl<|d_vl 6 rfl rfl kr kr rfl rfl (zla (x0:=(l2.getD i (0:Rat))) 3 i rfl ya sz28 rfl (by first|rfl|assumption|(simp;done)|omega) rfl rfl (gD (d:=(0:Rat)) om)) ?_
   rintro ⟨b6,o7,w8,w9⟩ -
   dsimp only [aq,nq,cq]
   refine zVa open_rQ<|e_u 7 rfl rfl (zS (j:=0) 0 ty28 rfl rfl rfl (.t4 .nil))<|e_one 8 (zNa rfl rfl rfl rfl (.c rfl (.c rfl .n)) ce22 (zdb (u1:=w4) (v1:=w5) (q1:=(l1.getD i (0:Rat))) (u2:=w8) (v2:=w9) (q2:=(l2.getD i (0:Rat))) (hl:=by have h1:=hb1 i;have h2:=hb2 i;omega)) (.c (j:=3) rfl (.c (j:=1) rfl .n)) ?_)
   refine e_pv 9 rfl rfl (zpb rfl)<|zT kr<|zd<|zC rfl (fun hd=> ?_) (fun hd=> ?_)
   ·
    refine ze<|za<|e_p (zb rfl)<|zf<|zd<|zE<|zca<|zq<|zq<|zca<|zq ?_
    exact zA Tryz.results12 () trivial (zp rfl) (congrArg Value.bool (decide_eq_false (fun e=>hd (by rw [e])))) (ho:=(.n:PickO _ _ _)) (.n:SelR _ _ _)
   ·
    refine zB<|zN<|zd<|za<|e_mv rfl<|e_p (zK (z:=(((i+1):Nat):Int)) rfl rfl (w64 om))<|e_p (zb rfl)<|zf<|zZ (i+1) (show (i+1)≤n1∧∀j,j<(i+1)→l1.getD j 0=l2.getD j 0 from by refine ⟨by omega,fun j hj=> ?_⟩;by_cases e:j=i;(subst e;exact Decidable.not_not.1 hd);exact hall j om) (by show n1 - (i+1)<n1 - i;omega) ((.of rfl):SubM _ _) (ho:=(.n:PickO _ _ _)) ((.of [4,5] rfl):SelR _ _ _)
  ·
   refine zea<|zi<|zi<|zw<|zd<|ze<|za<|e_p (zb rfl)<|zf<|zd<|zE ?_
   exact zA Tryz.results12 () trivial (zp rfl) (congrArg Value.bool (decide_eq_true (Po.same_all hn1 om (fun j hj=>hall j om)))) (ho:=(.n:PickO _ _ _)) (.n:SelR _ _ _)
end Go.Proofs.YtbiaimgafknkmaaGreat.Sp
namespace Go.Proofs.YtbiaimgafknkmaaGreat.Po
open Go.Proofs.YtbiaimgafknkmaaGreat.Big
def mo (l:List Rat):List Rat:=if l.length=0 then [] else mul l [((1:Int):Rat) / lead l]
def ge:Nat→List Rat→List Rat→List Rat
  |0,p,_=>p
  |n+1,p,q=>if q.length=0 then p else ge n q (mo (dr p q))
def gcd (p q:List Rat):List Rat:=ge (cl q).length (mo (cl p)) (mo (cl q))
def sqf (p:List Rat):List Rat:=if (cl p).length=0 then [] else mo (dq (cl p) (gcd (cl p) (der (cl p))))
def st:Nat→List Rat→List Rat→List (List Rat)
  |0,_,_=>[]
  |n+1,a,b=>if b.length=0 then [] else b :: st n b (mul (dr a b) [(((-1:Int)):Rat)])
def sturm (p:List Rat):List (List Rat):=if (sqf p).length=0 then [] else sqf p :: st (sqf p).length (sqf p) (der (sqf p))
def va (x:Rat):List (List Rat)→Int→Int→Int
  |[],n,_=>n
  |p :: l,n,s=>if sgq (ev x p)=0 then va x l n s else va x l (if s*sgq (ev x p)<0 then n+1 else n) (sgq (ev x p))
def vr (l:List (List Rat)) (x:Rat):Int:=va x l 0 0
def bt (l:List (List Rat)) (a b:Rat):Int:=vr l a - vr l b
def bm (P:List Rat):Nat→Rat
  |0=>((0:Int):Rat)
  |i+1=>if bm P i<qabs (P.getD i 0 / lead P) then qabs (P.getD i 0 / lead P) else bm P i
def bound (P:List Rat):Rat:=bm P (P.length - 1)+((1:Int):Rat)
def mid (a b:Rat):Rat:=(a+b)*Rat.divInt 1 2
def iso (l:List (List Rat)):Nat→Rat→Rat→List (Rat×Rat)
  |0,_,_=>[]
  |n+1,a,b=>if bt l a b=0 then [] else if bt l a b=1 then [(a,b)] else iso l n a (mid a b)++iso l n (mid a b) b
def dgo (p q:List Rat):Prop:=bd 60000000000 q∧dok (cl q) ((cl p).length+1) [] (cl p)
def gok:Nat→List Rat→List Rat→Prop
  |0,_,_=>True
  |n+1,p,q=>q.length≠0→dgo p q∧bd 60000000000 (dr p q)∧gok n q (mo (dr p q))
def gcok (p q:List Rat):Prop:=bd 60000000000 p∧bd 60000000000 q∧gok (cl q).length (mo (cl p)) (mo (cl q))
def sqok (p:List Rat):Prop:=bd 60000000000 p∧bd 60000000000 (der (cl p))∧((cl p).length≠0→gcok (cl p) (der (cl p))∧dgo (cl p) (gcd (cl p) (der (cl p)))∧bd 60000000000 (dq (cl p) (gcd (cl p) (der (cl p)))))
def stok:Nat→List Rat→List Rat→Prop
  |0,_,_=>True
  |n+1,a,b=>b.length≠0→bd 60000000000 b∧dgo a b∧bd 60000000000 (dr a b)∧stok n b (mul (dr a b) [(((-1:Int)):Rat)])
def sok (p:List Rat):Prop:=sqok p∧bd 60000000000 (sqf p)∧bd 60000000000 (der (sqf p))∧stok (sqf p).length (sqf p) (der (sqf p))
def vok (l:List (List Rat)) (x:Rat):Prop:=∀p,p∈l→p.length≤900∧bd 60000000000 p∧∀i,hq (ev x (p.drop i))≤200000000000
theorem mul_len (p q:List Rat):(mul p q).length≤p.length+q.length - 1:=by
  rw [← mul_mc]
  unfold mc
  exact Nat.le_trans (cl_le_len _) (by rw [gen_len];exact Nat.le_refl _)
theorem mo_len (l:List Rat):(mo l).length≤l.length:=by
  unfold mo
  split
  · exact Nat.zero_le _
  · exact Nat.le_trans (mul_len _ _) (by show l.length+1 - 1≤_;omega)
theorem mo_cl (l:List Rat):cl (mo l)=mo l:=by
  unfold mo
  split
  · rfl
  · exact mul_cl _ _
theorem dr_cl (p q:List Rat):cl (dr p q)=dr p q:=by
  unfold dr
  split
  · rfl
  · rename_i h
    have h':cl q≠[]:=fun e=>h (by rw [e];rfl)
    obtain ⟨-,-,h3,h4⟩:=dv_spec (cl_cl q) h' (cl p).length [] (cl p) (Nat.le_refl _) (cl_cl p) rfl
    first|exact h3|exact h4
theorem dq_cl (p q:List Rat):cl (dq p q)=dq p q:=by
  unfold dq
  split
  · rfl
  · rename_i h
    have h':cl q≠[]:=fun e=>h (by rw [e];rfl)
    obtain ⟨-,-,h3,h4⟩:=dv_spec (cl_cl q) h' (cl p).length [] (cl p) (Nat.le_refl _) (cl_cl p) rfl
    first|exact h4|exact h3
theorem dr_less {p q:List Rat} (hq:cl q=q) (h:q.length≠0):(dr p q).length<q.length:=by
  have h':cl q≠[]:=fun e=>h (by rw [hq] at e;rw [e];rfl)
  have:=(divp_spec (p:=p) h').1
  unfold dr
  rw [if_neg (by rw [hq];exact h)]
  rw [hq] at this
  exact this
theorem ge_nil {n:Nat} {p q:List Rat} (h:q.length=0):ge n p q=p:=by
  cases n with
  |zero=>rfl
  |succ n=>exact if_pos h
theorem ge_yes {n:Nat} {p q:List Rat} (h:q.length≠0) (hn:q.length≤n):ge n p q=ge (n - 1) q (mo (dr p q)):=by
  obtain ⟨m,rfl⟩:∃m,n=m+1:=⟨n - 1,by omega⟩
  exact if_neg h
theorem gok_yes {n:Nat} {p q:List Rat} (k:gok n p q) (h:q.length≠0) (hn:q.length≤n):dgo p q∧bd 60000000000 (dr p q)∧gok (n - 1) q (mo (dr p q)):=by
  obtain ⟨m,rfl⟩:∃m,n=m+1:=⟨n - 1,by omega⟩
  exact k h
theorem mdr_len {n:Nat} {p q:List Rat} (hq:cl q=q) (h:q.length≠0) (hn:q.length≤n):(mo (dr p q)).length≤n - 1:=by
  have:=mo_len (dr p q);have:=dr_less (p:=p) hq h;omega
theorem st_nil {n:Nat} {a b:List Rat} (h:b.length=0):st n a b=[]:=by
  cases n with
  |zero=>rfl
  |succ n=>exact if_pos h
theorem st_yes {n:Nat} {a b:List Rat} (h:b.length≠0) (hn:b.length≤n):st n a b=b :: st (n - 1) b (mul (dr a b) [(((-1:Int)):Rat)]):=by
  obtain ⟨m,rfl⟩:∃m,n=m+1:=⟨n - 1,by omega⟩
  exact if_neg h
theorem stok_yes {n:Nat} {a b:List Rat} (k:stok n a b) (h:b.length≠0) (hn:b.length≤n):bd 60000000000 b∧dgo a b∧bd 60000000000 (dr a b)∧stok (n - 1) b (mul (dr a b) [(((-1:Int)):Rat)]):=by
  obtain ⟨m,rfl⟩:∃m,n=m+1:=⟨n - 1,by omega⟩
  exact k h
theorem sdr_len {n:Nat} {a b:List Rat} (hb:cl b=b) (h:b.length≠0) (hn:b.length≤n):(mul (dr a b) [(((-1:Int)):Rat)]).length≤n - 1:=by
  have:=mul_len (dr a b) [(((-1:Int)):Rat)];have:=dr_less (p:=a) hb h
  simp only [List.length_cons,List.length_nil] at*
  omega
theorem der_len (l:List Rat):(der l).length≤l.length - 1:=by
  unfold der
  exact Nat.le_trans (cl_le_len _) (by rw [gen_len];exact Nat.le_refl _)
theorem cv_one {p q:List Rat} (hq1:∀j,j≠0→q.getD j 0=0) {k lo:Nat}:∀n,lo+n≤k+1→cv p q k lo n=if 0<n∧lo+n=k+1 then p.getD k 0*q.getD 0 0 else 0
  |0,_=>by rw [if_neg (by omega)];rfl
  |n+1,h=>by
    show cv p q k lo n+p.getD (lo+n) 0*q.getD (k - (lo+n)) 0=_
    rw [cv_one hq1 n (by omega),if_neg (by omega)]
    by_cases e:k=lo+n
    · rw [if_pos (by omega),e,Nat.sub_self];grind
    · rw [if_neg (by omega),hq1 _ (by omega)];grind
theorem cv_one_hq {p:List Rat} {x:Rat} {K L:Nat} (hp:bd K p) (hx:hq x≤L) (k lo n:Nat) (h:lo+n≤k+1):hq (cv p (cl [x]) k lo n)≤K+L:=by
  rw [cv_one (q:=cl [x]) (fun j hj=>by rw [cl_get];obtain ⟨i,rfl⟩:∃i,j=i+1:=⟨j - 1,by omega⟩;rfl) n h,cl_get]
  split
  · have := hq_mul (p.getD k 0) x
    have:=hp k
    show hq (p.getD k 0*x)≤_
    omega
  · rw [hq_zero];have:=hq_pos x;omega
theorem bd_one {x:Rat} {L:Nat} (hx:hq x≤L):bd L [x]:=fun i=>by
  cases i with
  |zero=>exact hx
  |succ i=>show hq 0≤L;rw [hq_zero];have:=hq_pos x;omega
theorem inv_hq {l:List Rat} {K:Nat} (h:bd K l):hq (((1:Int):Rat) / lead l)≤1+K:=by
  by_cases h0:lead l=0
  · rw [h0,show ((1:Int):Rat) / 0=0 by rw [Rat.div_def,Rat.inv_zero,Rat.mul_zero],hq_zero];omega
  · have := hq_div ((1 : Int) : Rat) h0
    have:=lead_hq h
    have:hq ((1:Int):Rat)=1:=by decide
    omega
theorem mid_hq {a b:Rat} {K L:Nat} (ha:hq a≤K) (hb:hq b≤L):hq (mid a b)≤K+L+2:=by
  unfold mid
  have:=hq_mul (a+b) (Rat.divInt 1 2)
  have:=hq_add a b
  have:hq (Rat.divInt 1 2)=1:=by decide +kernel
  omega
theorem bm_step (P:List Rat) (i:Nat):(if bm P i<qabs (P.getD i 0 / lead P) then qabs (P.getD i 0 / lead P) else bm P i)=bm P (i+1):=rfl
theorem bm_hq {P:List Rat} {K:Nat} (h:bd K P) (h0:lead P≠0):∀i,hq (bm P i)≤K+K
  | 0 => by show hq ((0 : Int) : Rat) ≤ _; have := hq_pos (lead P); have := lead_hq h; have : hq ((0 : Int) : Rat) = 1 := by decide
            omega
  |i+1=>by
    unfold bm
    split
    · rw [hq_qabs];have:=hq_div (P.getD i 0) h0;have:=lead_hq h;have:=h i;omega
    · exact bm_hq h h0 i
theorem vok_of {L:List (List Rat)} {x:Rat} {K M:Nat} (hx:hq x≤M) (h:∀p,p∈L→p.length≤10∧bd K p) (hk:K≤60000000000) (hb:1+10*(K+M+1)≤200000000000):vok L x:=fun p hp=>by
  obtain ⟨h1,h2⟩:=h p hp
  refine ⟨by omega,bd_mono h2 hk,fun i=> ?_⟩
  refine Nat.le_trans (ev_hq (K:=K) hx (l:=p.drop i) fun j=> ?_) (Nat.le_trans (Nat.add_le_add_left (Nat.mul_le_mul_right _ (by rw [List.length_drop];omega)) _) hb)
  have:(p.drop i).getD j 0=p.getD (i+j) 0:=by rw [List.getD_eq_getElem?_getD,List.getElem?_drop,←List.getD_eq_getElem?_getD]
  rw [this];exact h2 _
theorem va_step (x:Rat) {L:List (List Rat)} {i:Nat} (h:i<L.length) (n s:Int):va x (L.drop i) n s=if sgq (ev x (L.getD i []))=0 then va x (L.drop (i+1)) n s else va x (L.drop (i+1)) (if s*sgq (ev x (L.getD i []))<0 then n+1 else n) (sgq (ev x (L.getD i []))):=by
  have e:L.drop i=L.getD i [] :: L.drop (i+1):=by
    rw [List.getD_eq_getElem?_getD,List.getElem?_eq_getElem h]
    exact List.drop_eq_getElem_cons h
  rw [e];rfl
end Go.Proofs.YtbiaimgafknkmaaGreat.Po
namespace Go.Proofs.YtbiaimgafknkmaaGreat.Po
open Go.Proofs.YtbiaimgafknkmaaGreat.Big
def cbd (d:Int) (K:Nat) (l:List Rat):Prop:=∀i,∃n:Int,ln n≤K∧l.getD i 0*(d:Rat)=(n:Rat)
def cb (K:Nat) (l:List Rat):Prop:=∃d:Int,d≠0∧ln d≤K∧cbd d K l
theorem sub_mul' (a b c:Rat):(a - b)*c=a*c - b*c:=by grind
theorem cast_ne {d:Int} (h:d≠0):(d:Rat)≠0:=fun e=>h (by exact_mod_cast e)
theorem frac_hq {x:Rat} {n d:Int} {K:Nat} (hd:d≠0) (h1:ln n≤K) (h2:ln d≤K) (h:x*(d:Rat)=(n:Rat)):hq x≤K:=by
  have e:x=Rat.divInt n d:=by
    rw [Rat.divInt_eq_div]
    rw [← h,Rat.mul_div_cancel (cast_ne hd)]
  rw [e]
  have:=hq_divInt (n:=n) hd
  omega
theorem cb_bd {K:Nat} {l:List Rat} (h:cb K l):bd K l:=fun i=>by
  obtain ⟨d,h0,h1,h2⟩:=h
  obtain ⟨n,h3,h4⟩:=h2 i
  exact frac_hq h0 h3 h1 h4
theorem cb_mono {K L:Nat} {l:List Rat} (h:cb K l) (hk:K≤L):cb L l:=by
  obtain ⟨d,h0,h1,h2⟩:=h
  exact ⟨d,h0,by omega,fun i=>by obtain ⟨n,h3,h4⟩:=h2 i;exact ⟨n,by omega,h4⟩⟩
theorem cb_ext {K:Nat} {l m:List Rat} (h:cb K l) (e:∀i,m.getD i 0=l.getD i 0):cb K m:=by
  obtain ⟨d,h0,h1,h2⟩:=h
  exact ⟨d,h0,h1,fun i=>by rw [e];exact h2 i⟩
theorem cb_cl {K:Nat} {l:List Rat} (h:cb K l):cb K (cl l):=cb_ext h (cl_get l)
theorem cb_of_bd {k:Nat}:∀{l:List Rat},bd k l→cb (1+l.length*k) l
  |[],_=>⟨1,by decide,by rw [zQf];omega,fun i=>⟨0,by rw [zPd];omega,by rw [gD0 (Nat.zero_le _)];simp⟩⟩
  |a :: l,h=>by
    obtain ⟨d,h0,h1,h2⟩:=cb_of_bd (l:=l) (k:=k) fun i=>h (i+1)
    have ha:hq a≤k:=h 0
    have hn:=hq_num a
    have hd:=hq_den a
    have hm:=zoa d (a.den:Int)
    have hlen:(a :: l).length*k=l.length*k+k:=by rw [List.length_cons,Nat.succ_mul]
    refine ⟨d*(a.den:Int),Int.mul_ne_zero h0 (den_ne a),by omega,fun i=> ?_⟩
    cases i with
    |zero=>
      refine ⟨a.num*d,by have:=zoa a.num d;omega,?_⟩
      show a*((d*(a.den:Int):Int):Rat)=_
      have e:a*((a.den:Int):Rat)=(a.num:Rat):=by
        have h1:(a.num:Rat) / ((a.den:Int):Rat)=a:=by rw [← Rat.divInt_eq_div,Rat.num_divInt_den]
        have h2:=Rat.div_mul_cancel (a:=(a.num:Rat)) (cast_ne (den_ne a))
        rw [h1] at h2
        exact h2
      rw [Rat.intCast_mul,Rat.intCast_mul,Rat.mul_comm (d:Rat),←Rat.mul_assoc,e]
    |succ i=>
      obtain ⟨n,h3,h4⟩:=h2 i
      refine ⟨n*(a.den:Int),by have:=zoa n (a.den:Int);omega,?_⟩
      show l.getD i 0*((d*(a.den:Int):Int):Rat)=_
      rw [Rat.intCast_mul,Rat.intCast_mul,←Rat.mul_assoc,h4]
theorem cb_scale {K:Nat} {l m:List Rat} {x:Rat} (h:cb K l) (hx:x=1 / lead l) (h0:lead l≠0) (e:∀i,m.getD i 0=l.getD i 0*x):cb K m:=by
  obtain ⟨d,hd,h1,h2⟩:=h
  obtain ⟨nl,h3,h4⟩:=h2 (l.length - 1)
  have h4':lead l*(d:Rat)=(nl:Rat):=h4
  have hnl:nl≠0:=fun k=>by
    rw [k] at h4'
    rcases Rat.mul_eq_zero.1 (h4'.trans (by rfl)) with q|q
    · exact h0 q
    · exact cast_ne hd q
  refine ⟨nl,hnl,h3,fun i=> ?_⟩
  obtain ⟨n,h5,h6⟩:=h2 i
  refine ⟨n,h5,?_⟩
  rw [e,hx,←h4',←h6]
  have:l.getD i 0*(1 / lead l)*(lead l*(d:Rat))=l.getD i 0*(d:Rat)*(1 / lead l*lead l):=by grind
  rw [this,Rat.div_mul_cancel h0,Rat.mul_one]
theorem mul_one_get (l:List Rat) (x:Rat) (i:Nat):(mul l [x]).getD i 0=l.getD i 0*x:=by
  rw [← scl_mul,scl_get]
theorem cb_mo {K:Nat} {l:List Rat} (hl:cl l=l) (h:cb K l):cb K (mo l):=by
  unfold mo
  split
  · rename_i h0
    have e:l=[]:=List.length_eq_zero_iff.1 h0
    rw [← e];exact h
  · rename_i h0
    exact cb_scale h rfl (lead_ne hl (fun e=>h0 (by rw [e];rfl))) (mul_one_get l _)
theorem cb_neg {K:Nat} {l:List Rat} (h:cb K l):cb K (mul l [(((-1:Int)):Rat)]):=by
  obtain ⟨d,hd,h1,h2⟩:=h
  refine ⟨d,hd,h1,fun i=> ?_⟩
  obtain ⟨n,h3,h4⟩:=h2 i
  refine ⟨-n,by rw [zI];exact h3,?_⟩
  rw [mul_one_get,show (((-1:Int)):Rat)= -1 by decide +kernel,show ((-n:Int):Rat)= -(n:Rat) from Rat.intCast_neg n,←h4]
  grind
theorem cb_der {K:Nat} {l:List Rat} (h:cb K l) (hl:l.length≤1000):cb (K+3) (der l):=by
  obtain ⟨d,hd,h1,h2⟩:=h
  refine ⟨d,hd,by omega,fun i=> ?_⟩
  by_cases hi:i+1<l.length
  · obtain ⟨n, h3, h4⟩ := h2 (i + 1)
    refine ⟨((i+1:Nat):Int)*n,?_,?_⟩
    · have := zoa ((i + 1 : Nat) : Int) n
      have:=zdd (z:=((i+1:Nat):Int)) (by omega) (by omega)
      omega
    · rw [der_get,Rat.intCast_mul,←h4,Rat.mul_assoc]
  · refine ⟨0, by rw [zPd]; omega, ?_⟩
    rw [der_get,gD0 (by omega)];simp
def cb2 (K:Nat) (a r:List Rat):Prop:=∃d:Int,d≠0∧ln d≤K∧cbd d K a∧cbd d K r
theorem cb2_step {K L:Nat} {a r q:List Rat} (hq:cl q=q) (hn:q≠[]) (h:cb2 K a r) (g:cb L q):cb2 (K+L+1) (add a (dt q r)) (sub r (mul (dt q r) q)):=by
  obtain ⟨d,hd,h1,ha,hr⟩:=h
  obtain ⟨e,he,g1,g2⟩:=g
  have hl0:=lead_ne hq hn
  obtain ⟨nl,k1,k2⟩:=hr (r.length - 1)
  obtain ⟨ml,k3,k4⟩:=g2 (q.length - 1)
  have k2':lead r*(d:Rat)=(nl:Rat):=k2
  have k4':lead q*(e:Rat)=(ml:Rat):=k4
  have hml:ml≠0:=fun k=>by
    rw [k] at k4'
    rcases Rat.mul_eq_zero.1 (k4'.trans (by rfl)) with q|q
    · exact hl0 q
    · exact cast_ne he q
  have hk:lead r / lead q*(((d*ml:Int)):Rat)=((nl*e:Int):Rat):=by
    rw [Rat.intCast_mul,Rat.intCast_mul,←k2',←k4']
    have:lead r / lead q*((d:Rat)*(lead q*(e:Rat)))=lead r / lead q*lead q*((d:Rat)*(e:Rat)):=by grind
    rw [this,Rat.div_mul_cancel hl0];grind
  refine ⟨d*ml,Int.mul_ne_zero hd hml,by have:=zoa d ml;omega,fun i=> ?_,fun i=> ?_⟩
  · obtain ⟨n, h3, h4⟩ := ha i
    rw [add_get]
    unfold dt
    rw [mono_get]
    split
    · refine ⟨n * ml + nl * e, ?_, ?_⟩
      · have:=zkc (n*ml) (nl*e);have:=zoa n ml;have:=zoa nl e;omega
      · rw [Rat.add_mul,hk,Rat.intCast_add,Rat.intCast_mul,Rat.intCast_mul,Rat.intCast_mul,←Rat.mul_assoc,h4]
    · refine ⟨n * ml, by have := zoa n ml; omega, ?_⟩
      rw [Rat.add_mul,Rat.zero_mul,Rat.add_zero,Rat.intCast_mul,Rat.intCast_mul,←Rat.mul_assoc,h4]
  · obtain ⟨n, h3, h4⟩ := hr i
    rw [sub_get,mul_get]
    unfold dt
    rw [C_mono]
    split
    · obtain ⟨m, h5, h6⟩ := g2 (i - (r.length - q.length))
      refine ⟨n*ml - nl*m,?_,?_⟩
      · have:=zPf (n*ml) (nl*m);have:=zoa n ml;have:=zoa nl m;omega
      · have z:lead r / lead q*q.getD (i - (r.length - q.length)) 0*(((d*ml:Int)):Rat)=((nl*m:Int):Rat):=by
          rw [Rat.intCast_mul,Rat.intCast_mul,←h6,←k2',←k4']
          have:lead r / lead q*q.getD (i - (r.length - q.length)) 0*((d:Rat)*(lead q*(e:Rat)))=lead r / lead q*lead q*((d:Rat)*(q.getD (i - (r.length - q.length)) 0*(e:Rat))):=by grind
          rw [this,Rat.div_mul_cancel hl0];grind
        rw [sub_mul',z,Rat.intCast_sub,Rat.intCast_mul,Rat.intCast_mul,Rat.intCast_mul,←Rat.mul_assoc,h4]
    · refine ⟨n * ml, by have := zoa n ml; omega, ?_⟩
      rw [sub_mul',Rat.zero_mul,Rat.sub_eq_add_neg,Rat.neg_zero,Rat.add_zero,Rat.intCast_mul,Rat.intCast_mul,←Rat.mul_assoc,h4]
theorem cb2_bd {K:Nat} {a r:List Rat} (h:cb2 K a r):bd K a∧bd K r:=by
  obtain ⟨d,h0,h1,h2,h3⟩:=h
  exact ⟨cb_bd ⟨d,h0,h1,h2⟩,cb_bd ⟨d,h0,h1,h3⟩⟩
theorem cgrow {q:List Rat} {L:Nat} (hq:cl q=q) (hn:q≠[]) (g:cb L q):∀(n K:Nat) (a r:List Rat),cb2 K a r→K+n*(L+1)≤60000000000→dok q n a r
  |0,_,_,_,_,_=>trivial
  |n+1,K,a,r,h,hb=>by
    rw [Nat.succ_mul] at hb
    refine ⟨⟨bd_mono (cb2_bd h).1 (by omega),bd_mono (cb2_bd h).2 (by omega)⟩,fun _=> ?_⟩
    exact cgrow hq hn g n (K+L+1) _ _ (cb2_step hq hn h g) (by omega)
theorem dv_cb {q:List Rat} {L:Nat} (hq:cl q=q) (hn:q≠[]) (g:cb L q):∀(n K:Nat) (a r:List Rat),cb2 K a r→cb2 (K+(r.length+1 - q.length)*(L+1)) (dv q n a r).1 (dv q n a r).2
  |0,K,a,r,h=>by
    obtain ⟨d,h0,h1,h2,h3⟩:=h
    have:K≤K+(r.length+1 - q.length)*(L+1):=Nat.le_add_right _ _
    exact ⟨d,h0,by omega,fun i=>by obtain ⟨n,a1,a2⟩:=h2 i;exact ⟨n,by omega,a2⟩,fun i=>by obtain ⟨n,a1,a2⟩:=h3 i;exact ⟨n,by omega,a2⟩⟩
  |n+1,K,a,r,h=>by
    by_cases hl:r.length<q.length
    · unfold dv
      rw [if_pos hl]
      obtain ⟨d,h0,h1,h2,h3⟩:=h
      have:K≤K+(r.length+1 - q.length)*(L+1):=Nat.le_add_right _ _
      exact ⟨d,h0,by omega,fun i=>by obtain ⟨n,a1,a2⟩:=h2 i;exact ⟨n,by omega,a2⟩,fun i=>by obtain ⟨n,a1,a2⟩:=h3 i;exact ⟨n,by omega,a2⟩⟩
    · unfold dv
      rw [if_neg hl]
      have hlt:=dt_less (r:=r) hq hn (by omega)
      have ih:=dv_cb hq hn g n (K+L+1) _ _ (cb2_step hq hn h g)
      have e:K+L+1+((sub r (mul (dt q r) q)).length+1 - q.length)*(L+1)≤K+(r.length+1 - q.length)*(L+1):=by
        have:((sub r (mul (dt q r) q)).length+1 - q.length+1)*(L+1)≤(r.length+1 - q.length)*(L+1):=Nat.mul_le_mul_right _ (by omega)
        rw [Nat.succ_mul] at this
        omega
      obtain ⟨d,h0,h1,h2,h3⟩:=ih
      exact ⟨d,h0,by omega,fun i=>by obtain ⟨n,a1,a2⟩:=h2 i;exact ⟨n,by omega,a2⟩,fun i=>by obtain ⟨n,a1,a2⟩:=h3 i;exact ⟨n,by omega,a2⟩⟩
theorem cb2_nil {K:Nat} {r:List Rat} (h:cb K r):cb2 K [] r:=by
  obtain ⟨d,h0,h1,h2⟩:=h
  exact ⟨d,h0,h1,fun i=>⟨0,by rw [zPd];omega,by rw [gD0 (Nat.zero_le _)];simp⟩,h2⟩
theorem div_cb {p q:List Rat} {K L N:Nat} (hp:cl p=p) (hq:cl q=q) (hn:q.length≠0) (h:cb K p) (g:cb L q) (hN:p.length+1 - q.length≤N):cb (K+N*(L+1)) (dq p q)∧cb (K+N*(L+1)) (dr p q):=by
  have h':q≠[]:=fun e=>hn (by rw [e];rfl)
  have:=dv_cb hq h' g p.length K [] p (cb2_nil h)
  have e:(p.length+1 - q.length)*(L+1)≤N*(L+1):=Nat.mul_le_mul_right _ hN
  unfold dq dr divp
  rw [hq,hp,if_neg hn,if_neg hn]
  obtain ⟨d,h0,h1,h2,h3⟩:=this
  exact ⟨cb_mono ⟨d,h0,h1,h2⟩ (by omega),cb_mono ⟨d,h0,h1,h3⟩ (by omega)⟩
theorem dgo_cb {p q:List Rat} {K L N:Nat} (hp:cl p=p) (hq:cl q=q) (hn:q.length≠0) (h:cb K p) (g:cb L q) (hN:p.length+1≤N) (hb:K+N*(L+1)≤60000000000) (hL:L≤60000000000):dgo p q:=by
  have h':q≠[]:=fun e=>hn (by rw [e];rfl)
  refine ⟨bd_mono (cb_bd g) hL,?_⟩
  rw [hq,hp]
  refine cgrow hq h' g _ K _ _ (cb2_nil h) ?_
  have e:(p.length+1)*(L+1)≤N*(L+1):=Nat.mul_le_mul_right _ hN
  omega
theorem gok_cb {N:Nat} (hN0:1≤N):∀(n K:Nat) (p q:List Rat),cl p=p→cl q=q→cb K p→cb K q→p.length+1≤N→q.length+1≤N→(K+1)*(N+1)^n≤60000000000→gok n p q∧cb ((K+1)*(N+1)^n) (ge n p q)
  |0,K,p,q,_,_,hp,_,_,_,_=>⟨trivial,cb_mono hp (by show K≤(K+1)*1;omega)⟩
  |n+1,K,p,q,cp,cq,hp,hq,lp,lq,hb=>by
    have e1:(K+1)*(N+1)^(n+1)=(K+1)*(N+1)*(N+1)^n:=by rw [Nat.pow_succ,Nat.mul_assoc,Nat.mul_comm (N+1)]
    have e2:(K+1)*(N+1)≤(K+1)*(N+1)*(N+1)^n:=Nat.le_mul_of_pos_right _ (Nat.pow_pos (by omega))
    have e3:K+N*(K+1)+1=(K+1)*(N+1):=by rw [Nat.mul_comm (K+1),Nat.succ_mul];omega
    have e4:K+1≤(K+1)*(N+1):=Nat.le_mul_of_pos_right _ (by omega)
    by_cases h0:q.length=0
    · refine ⟨fun k => absurd h0 k, ?_⟩
      rw [ge_nil h0]
      exact cb_mono hp (by omega)
    · have hd := (div_cb (N := N) cp cq h0 hp hq (by omega)).2
      have hlt:=dr_less (p:=p) cq h0
      have hml:=mo_len (dr p q)
      have ih:=gok_cb hN0 n (K+N*(K+1)) q (mo (dr p q)) cq (mo_cl _) (cb_mono hq (by omega)) (cb_mo (dr_cl _ _) hd) lq (by omega) (by rw [e3,←e1];exact hb)
      refine ⟨fun _=>⟨dgo_cb cp cq h0 hp hq lp (by omega) (by omega),bd_mono (cb_bd hd) (by omega),ih.1⟩,?_⟩
      have e5:ge (n+1) p q=ge n q (mo (dr p q)):=if_neg h0
      rw [e5,e1,←e3]
      exact ih.2
theorem ge_cl:∀(n:Nat) (p q:List Rat),cl p=p→cl q=q→cl (ge n p q)=ge n p q
  |0,_,_,hp,_=>hp
  |n+1,p,q,hp,hq=>by
    unfold ge
    split
    · exact hp
    · exact ge_cl n q _ hq (mo_cl _)
theorem gcd_cl (p q:List Rat):cl (gcd p q)=gcd p q:=ge_cl _ _ _ (mo_cl _) (mo_cl _)
theorem sqf_cl (p:List Rat):cl (sqf p)=sqf p:=by
  unfold sqf
  split
  · rfl
  · exact mo_cl _
theorem stok_cb {N:Nat} (hN0:1≤N):∀(n K:Nat) (a b:List Rat),cl a=a→cl b=b→cb K a→cb K b→a.length+1≤N→b.length+1≤N→(K+1)*(N+1)^n≤60000000000→stok n a b∧∀l,l∈st n a b→l.length+1≤N∧cb ((K+1)*(N+1)^n) l
  |0,K,_,_,_,_,_,_,_,_,_=>⟨trivial,fun l h=>by cases h⟩
  |n+1,K,p,q,cp,cq,hp,hq,lp,lq,hb=>by
    have e1:(K+1)*(N+1)^(n+1)=(K+1)*(N+1)*(N+1)^n:=by rw [Nat.pow_succ,Nat.mul_assoc,Nat.mul_comm (N+1)]
    have e2:(K+1)*(N+1)≤(K+1)*(N+1)*(N+1)^n:=Nat.le_mul_of_pos_right _ (Nat.pow_pos (by omega))
    have e3:K+N*(K+1)+1=(K+1)*(N+1):=by rw [Nat.mul_comm (K+1),Nat.succ_mul];omega
    have e4:K+1≤(K+1)*(N+1):=Nat.le_mul_of_pos_right _ (by omega)
    by_cases h0:q.length=0
    · refine ⟨fun k => absurd h0 k, fun l h => ?_⟩
      rw [st_nil h0] at h
      cases h
    · have hd := (div_cb (N := N) cp cq h0 hp hq (by omega)).2
      have hlt:=dr_less (p:=p) cq h0
      have hml:=sdr_len (n:=q.length) (a:=p) cq h0 (Nat.le_refl _)
      have ih:=stok_cb hN0 n (K+N*(K+1)) q (mul (dr p q) [(((-1:Int)):Rat)]) cq (mul_cl _ _) (cb_mono hq (by omega)) (cb_neg hd) lq (by omega) (by rw [e3,←e1];exact hb)
      refine ⟨fun _=>⟨bd_mono (cb_bd hq) (by omega),dgo_cb cp cq h0 hp hq lp (by omega) (by omega),bd_mono (cb_bd hd) (by omega),ih.1⟩,fun l h=> ?_⟩
      have e5:st (n+1) p q=q :: st n q (mul (dr p q) [(((-1:Int)):Rat)]):=if_neg h0
      rw [e5] at h
      rcases List.mem_cons.1 h with rfl|h
      · exact ⟨lq,cb_mono hq (by omega)⟩
      · obtain ⟨i1, i2⟩ := ih.2 l h
        exact ⟨i1,by rw [e1,←e3];exact i2⟩
end Go.Proofs.YtbiaimgafknkmaaGreat.Po
namespace Go.Proofs.YtbiaimgafknkmaaGreat.Po
open Go.Proofs.YtbiaimgafknkmaaGreat.Big
theorem ge_len:∀(n:Nat) (p q:List Rat),cl q=q→(ge n p q).length≤max p.length q.length
  |0,p,q,_=>Nat.le_max_left _ _
  |n+1,p,q,hq=>by
    by_cases h:q.length=0
    · rw [ge_nil h];exact Nat.le_max_left _ _
    · have e : ge (n + 1) p q = ge n q (mo (dr p q)) := if_neg h
      rw [e]
      have:=ge_len n q (mo (dr p q)) (mo_cl _)
      have:=mo_len (dr p q)
      have:=dr_less (p:=p) hq h
      omega
theorem gcd_len (p q:List Rat):(gcd p q).length≤max p.length q.length:=by
  unfold gcd
  have:=ge_len (cl q).length (mo (cl p)) (mo (cl q)) (mo_cl _)
  have:=mo_len (cl p);have:=mo_len (cl q)
  have:=cl_le_len p;have:=cl_le_len q
  omega
theorem dv_len {q:List Rat} (hq:cl q=q) (h:q≠[]):∀(n:Nat) (a r:List Rat),(dv q n a r).1.length≤max a.length r.length∧(dv q n a r).2.length≤r.length
  |0,a,r=>⟨Nat.le_max_left _ _,Nat.le_refl _⟩
  |n+1,a,r=>by
    unfold dv
    split
    · exact ⟨Nat.le_max_left _ _,Nat.le_refl _⟩
    · have hlt := dt_less (r := r) hq h (by omega)
      obtain ⟨h1,h2⟩:=dv_len hq h n (add a (dt q r)) (sub r (mul (dt q r) q))
      have:=add_len a (dt q r)
      rw [dt_len] at this
      have:0<q.length:=List.length_pos_iff.2 h
      omega
theorem dqr_len (p q:List Rat):(dq p q).length≤p.length∧(dr p q).length≤p.length:=by
  unfold dq dr
  split
  · exact ⟨Nat.zero_le _,Nat.zero_le _⟩
  · rename_i h
    obtain ⟨h1,h2⟩:=dv_len (cl_cl q) (fun e=>h (by rw [e];rfl)) (cl p).length [] (cl p)
    have:=cl_le_len p
    unfold divp
    simp only [List.length_nil] at h1
    omega
theorem sqf_len (p:List Rat):(sqf p).length≤p.length:=by
  unfold sqf
  split
  · exact Nat.zero_le _
  · have := mo_len (dq (cl p) (gcd (cl p) (der (cl p))))
    have:=(dqr_len (cl p) (gcd (cl p) (der (cl p)))).1
    have:=cl_le_len p
    omega
theorem va_rng (x:Rat):∀(l:List (List Rat)) (n s:Int),n≤va x l n s∧va x l n s≤n+l.length
  |[],n,s=>by show n≤n∧n≤n+0;omega
  |p :: l,n,s=>by
    unfold va
    rw [List.length_cons]
    split
    · have:=va_rng x l n s;omega
    · split
      · have:=va_rng x l (n+1) (sgq (ev x p));omega
      · have:=va_rng x l n (sgq (ev x p));omega
theorem vr_rng (l:List (List Rat)) (x:Rat):0≤vr l x∧vr l x≤l.length:=by
  have:=va_rng x l 0 0
  unfold vr
  omega
theorem sg_mul {a b:Int} (ha: -1≤a∧a≤1) (hb: -1≤b∧b≤1): -9223372036854775808≤a*b∧a*b≤9223372036854775807:=by
  rcases (show a= -1∨a=0∨a=1 by omega) with rfl|rfl|rfl <;> omega
def isk (l:List (List Rat)):Nat→Rat→Rat→Prop
  |0,_,_=>False
  |n+1,a,b=>(hq a≤100000000000∧hq b≤100000000000∧vok l a∧vok l b)∧(bt l a b≠0→bt l a b≠1→isk l n a (mid a b)∧isk l n (mid a b) b)
theorem iso_none {l:List (List Rat)} {n:Nat} {a b:Rat} (h:bt l a b=0):iso l n a b=[]:=by
  cases n with
  |zero=>rfl
  |succ n=>exact if_pos h
theorem iso_one {l:List (List Rat)} {n:Nat} {a b:Rat} (h:bt l a b=1):iso l (n+1) a b=[(a,b)]:=by
  unfold iso;rw [if_neg (by omega),if_pos h]
theorem iso_more {l:List (List Rat)} {n:Nat} {a b:Rat} (h0:bt l a b≠0) (h1:bt l a b≠1):iso l (n+1) a b=iso l n a (mid a b)++iso l n (mid a b) b:=by
  conv=>lhs;unfold iso
  rw [if_neg h0,if_neg h1]
theorem lt_sgq {a b:Rat}:0<sgq (a - b)↔b<a:=by
  rw [sgq_pos]
  constructor <;> intro h <;> grind
end Go.Proofs.YtbiaimgafknkmaaGreat.Po
namespace Go.Proofs.YtbiaimgafknkmaaGreat.Sp
open Go
set_option linter.unusedVariables false
def rR:Rp (Rat×Rat):=⟨8,Wd×Wd×Wd×Wd,fun _ w=>[w.1.b,w.1.l,w.2.1.b,w.2.1.l,w.2.2.1.b,w.2.2.1.l,w.2.2.2.b,w.2.2.2.l],fun g q w=>(qF true w.1 w.2.1 q.1).on g∧(qF true w.2.2.1 w.2.2.2 q.2).on g,fun _ _ _ _ h k=>⟨(qF true _ _ _).mono _ _ h k.1,(qF true _ _ _).mono _ _ h k.2⟩,fun _ _=>rfl,fun _ _=>rfl⟩
theorem open_rR {A:Fa} {q:Rat×Rat} {w1 w2 w3 w4:Wd} {R:List Fa}:∀g,Holds g (A :: okF rR q (w1,w2,w3,w4) :: R)→Holds g (A :: qF true w1 w2 q.1 :: qF true w3 w4 q.2 :: R):=fun g ⟨h,a,r⟩=>⟨h,a.1,a.2,r⟩
section
variable {P : Program} {c : Cx} {O : List As} {R : List Fa} {α : Type} {T e : TypeId} {r : Rp α} {l : List α} {b : Nat}
def orA (b:Nat) (T e:TypeId) (r:Rp α) (l:List α):As:=⟨fun g h=>∃p c,Sep g [boxA b T [.slice p l.length c],rowA e r p c l] h,fun _ _ _ hg ⟨p,c,s⟩=>⟨p,c,Sep.mono hg s⟩⟩
theorem Mem.orOpen {w:World} (i:Nat) (hi:O[i]? =some (orA b T e r l)) (mm:Mem c w O R):∃y:Option Addr×Nat,True∧Mem c w (boxA b T [.slice y.1 l.length y.2] :: rowA e r y.1 y.2 l :: O.eraseIdx i) R:=by
  obtain ⟨hh,g,m0⟩:=mm.perm (zW hi)
  obtain ⟨h1,h2,a,eh,⟨p,cap,s⟩,y⟩:=m0.sep
  refine ⟨(p,cap),trivial,hh,g,?_,m0.holds,m0.apart,m0.hasH,m0.hasG,m0.le,m0.newG,m0.newH,m0.kept⟩
  subst eh
  exact Sep.app (O:=[boxA b T [.slice p l.length cap],rowA e r p cap l]) s y a
theorem Mem.orClose {w:World} {p:Option Addr} {n cap:Nat} (i j:Nat) (hi:O[i]? =some (boxA b T [.slice p n cap])) (hj:(O.eraseIdx i)[j]? =some (rowA e r p cap l)) (hn:n=l.length) (mm:Mem c w O R):Mem c w (orA b T e r l :: (O.eraseIdx i).eraseIdx j) R:=
  (mm.perm ((zW hi).trans (List.Perm.cons _ (zW hj)))).resep fun g h s=>by
    subst hn
    obtain ⟨h1,h2,a,eh,x,y⟩:=Sep.split (O:=[boxA b T [.slice p l.length cap],rowA e r p cap l]) (O':=(O.eraseIdx i).eraseIdx j) s
    exact ⟨h1,h2,a,eh,⟨p,cap,x⟩,y⟩
theorem Mem.orCast {w:World} {l2:List α} (i:Nat) (hi:O[i]? =some (orA b T e r l)) (h:l=l2) (mm:Mem c w O R):Mem c w (orA b T e r l2 :: O.eraseIdx i) R:=by
  subst h
  exact mm.perm (zW hi)
end
end Go.Proofs.YtbiaimgafknkmaaGreat.Sp
namespace Go.Proofs.YtbiaimgafknkmaaGreat.Sp
open Go
set_option linter.unusedVariables false
set_option maxRecDepth 100000
set_option maxHeartbeats 8000000
theorem zHb {p1:Option Addr} {n1:Nat} {c1:Nat} {l1:List Rat} (hn1:l1.length=n1) (hm1:n1≤800) (hcl:Po.cl l1=l1) (hb:Po.bd 60000000000 l1):Con yb 131 [.slice p1 n1 c1] [] [slF rQ p1 c1 l1] (Y:=(Option Addr)×Nat) (fun y=>True) (fun y=> .slice (y.1) ((Po.mo l1).length) (y.2)) (fun y=>[]) (fun y=>[slF rQ (y.1) (y.2) (Po.mo l1)]):=by
 refine zl Tryz.func131 rfl rfl rfl (fun c=> ?_)
 show RunC _ _ _ _ _ [(0,.slice p1 n1 c1)] [] [slF rQ p1 c1 l1]
 refine zQ 0 rfl (fun hL0=> ?_)
 refine ze<|za<|e_p (zb rfl)<|zf<|zd<|ze<|ze<|za<|e_mv rfl<|e_p (zD ya rfl)<|e_p (zia rfl rfl)<|zf<|zd<|zC rfl (fun h7=> ?_) (fun h7=> ?_)
 ·
  refine ze<|za<|e_p (zb rfl)<|zf<|zd<|zE<|zq<|zJb rQ ?_
  have hv9:(Po.mo l1)=[]:=if_pos om
  exact zA Tryz.results131 (none,0) trivial (zp rfl) (by rw [hv9];rfl) (ho:=(.n:PickO _ _ _)) ((.e (j:=0) rfl (by rw [hv9]) .n):SelR _ _ _)
 ·
  have hne:l1≠[]:=fun e=>h7 (by rw [← hn1,e];rfl)
  have hl0:=Po.lead_ne hcl hne
  have hlq:=Po.lead_hq hb
  have hiq:=Po.inv_hq hb
  have h1q:yd ((1:Int):Rat)=1:=by decide
  refine zB<|zd<|ze<|zU (OW:=[]) (O:=[]) 12 mixed (.then .ret) kr<|e_dm 1 rfl rfl rfl<|e_dm 2 rfl rfl rfl<|e_pv 3 rfl rfl (zD ya rfl)<|e_pv 4 rfl rfl (zY (z:=(((n1:Nat):Int) - 1)) rfl rfl (w64 om)) ?_
  have e1:((((n1:Nat):Int) - 1):Int)=(((n1 - 1):Nat):Int):=by omega
  rw [e1]
  refine d_vl 5 rfl rfl kr kr rfl rfl (zla (x0:=(l1.getD (n1 - 1) (0:Rat))) 0 (n1 - 1) rfl ya sz28 rfl (by first|rfl|assumption|(simp;done)|omega) rfl rfl (gD (d:=(0:Rat)) om)) ?_
  rintro ⟨b2,o3,w4,w5⟩ -
  dsimp only [aq,nq,cq]
  refine zVa open_rQ<|e_u 6 rfl rfl (zS (j:=0) 0 ty28 rfl rfl rfl (.t4 .nil))<|zrd (m':=[(15,.agg (cw [w4,w5]).toArray),(2,.slice none 0 0),(0,.slice p1 n1 c1)]) (R':=[qF true w4 w5 (l1.getD (n1 - 1) (0:Rat)),slF rQ p1 c1 l1]) ((.of rfl):SubM _ _) (List.Perm.refl _) (List.Perm.refl _) ((.of [1,2] rfl):SelR _ _ _)<|zBa (X:=Wd×Wd×Wd×Wd×Nat) (k':=0) (L':=(lb 14 16383)) (fun (u0_1,u0_2,u7_1,u7_2,u11_1)=>([(3,.pointer (some ⟨u11_1,0,none⟩)),(2,.slice none 0 0),(0,.slice p1 n1 c1)],[boxA u11_1 28 (cw [u7_1,u7_2])],[],[qF true u7_1 u7_2 (((1:Int):Rat) / (l1.getD (n1 - 1) (0:Rat))),qF true u0_1 u0_2 ((1:Int):Rat),qF true w4 w5 (l1.getD (n1 - 1) (0:Rat)),slF rQ p1 c1 l1])) ?_ (fun hD0=> ?_)
  ·
   rintro ⟨u0_1,u0_2,u7_1,u7_2,u11_1⟩
   dsimp only [cw]
   refine zT kr<|zd<|ze ?_
   obtain ⟨kq,hkq⟩:∃z:Rat,z=((1:Int):Rat) / (l1.getD (n1 - 1) (0:Rat)):=⟨_,rfl⟩
   rw [← hkq]
   refine za<|e_mv rfl<|e_ru (zc 0 ty28 rfl rfl (.t4 .nil))<|zra (addQe 0 rfl)<|zra (addQE 4 rfl)<|zk rfl rfl (.c rfl (.c rfl .n)) ce19 (zZc (p1:=p1) (n1:=n1) (c1:=c1) (l1:=(l1.map some)) (u1:=u7_1) (v1:=u7_2) (x1:=(some kq)) (hn1:=by exact (List.length_map _).trans hn1) (hm1:=by first|omega|rfl|assumption|decide) (hm9:=by first|omega|rfl|assumption|decide) (hb1:=by rw [Po.vals_some];exact fun i=>Nat.le_trans (hb i) dd) (hb2:=by exact Po.bd_one (by show yd kq≤_;rw [hkq,←hn1];exact Nat.le_trans hiq dd)) (hs:=by rw [Po.vals_some];intro k lo n h;exact Nat.le_trans (Po.cv_one_hq (Po.bd_cl hb) (by show yd kq≤_;rw [hkq,←hn1];exact hiq) k lo n h) dd)) (.c (j:=0) rfl (.c (j:=1) rfl .n)) ?_
   rintro ⟨p96,c97⟩ -
   dsimp only [aq,nq,cq]
   refine e_p (zb rfl)<|zf<|zd<|zE ?_
   have e8:(Po.mul (Po.vals (l1.map some)) (Po.vals [(some kq)]):List Rat)=Po.mo l1:=by unfold Po.mo;rw [if_neg om,Po.vals_some,hkq,←hn1];rfl
   rw [e8]
   exact zA Tryz.results131 (p96,c97) trivial (zp rfl) rfl (ho:=(.n:PickO _ _ _)) ((.c (j:=0) rfl .n):SelR _ _ _)
  refine zBa (X:=Wd×Wd×Wd×Wd×Nat) (k':=2) (L':=(lb 14 4095)) (fun (u0_1,u0_2,u7_1,u7_2,u11_1)=>([(3,.pointer (some ⟨u11_1,0,none⟩)),(18,.int .i64 0),(17,.agg (cw [u7_1,u7_2]).toArray),(2,.slice none 0 0),(0,.slice p1 n1 c1)],[boxA u11_1 28 (cw [wz,wz])],[],[qF true u7_1 u7_2 (((1:Int):Rat) / (l1.getD (n1 - 1) (0:Rat))),qF true u0_1 u0_2 ((1:Int):Rat),qF true w4 w5 (l1.getD (n1 - 1) (0:Rat)),slF rQ p1 c1 l1])) ?_ (fun hD1=> ?_)
  ·
   rintro ⟨u0_1,u0_2,u7_1,u7_2,u11_1⟩
   dsimp only [cw]
   refine zAb 12 kr ?_
   ·
    refine zv kr rfl rfl rfl rfl rfl sz28 rfl (.t4 .nil)<|e_pv 13 rfl rfl (zb rfl) ?_
    exact zda (hD0 (u0_1,u0_2,u7_1,u7_2,u11_1)) kr ((.of rfl):SubM _ _) .rfl .rfl ((.of [0,1,2,3] rfl):SelR _ _ _)
  refine zBa (X:=Wd×Wd×Wd×Wd) (k':=3) (L':=(lb 14 2047)) (fun (u0_1,u0_2,u7_1,u7_2)=>([(18,.int .i64 0),(17,.agg (cw [u7_1,u7_2]).toArray),(2,.slice none 0 0),(0,.slice p1 n1 c1)],[],[],[qF true u7_1 u7_2 (((1:Int):Rat) / (l1.getD (n1 - 1) (0:Rat))),qF true u0_1 u0_2 ((1:Int):Rat),qF true w4 w5 (l1.getD (n1 - 1) (0:Rat)),slF rQ p1 c1 l1])) ?_ (fun hD2=> ?_)
  ·
   rintro ⟨u0_1,u0_2,u7_1,u7_2⟩
   dsimp only [cw]
   refine zAb 11 kr ?_
   ·
    refine zOa rfl rfl rfl rfl (zr zr28 rfl) (fun u11_1 _=> ?_)
    exact zda (hD1 (u0_1,u0_2,u7_1,u7_2,u11_1)) kr ((.of rfl):SubM _ _) .rfl .rfl ((.of [0,1,2,3] rfl):SelR _ _ _)
  refine zBa (X:=Wd×Wd×Nat) (k':=6) (L':=(lb 14 2175)) (fun (u0_1,u0_2,u11_1)=>([(3,.pointer (some ⟨u11_1,0,none⟩)),(9,.agg (cw [u0_1,u0_2]).toArray),(15,.agg (cw [w4,w5]).toArray),(2,.slice none 0 0),(0,.slice p1 n1 c1)],[boxA u11_1 28 (cw [wz,wz])],[],[qF true u0_1 u0_2 ((1:Int):Rat),qF true w4 w5 (l1.getD (n1 - 1) (0:Rat)),slF rQ p1 c1 l1])) ?_ (fun hD3=> ?_)
  ·
   rintro ⟨u0_1,u0_2,u11_1⟩
   dsimp only [cw]
   refine zAb 7 kr ?_
   ·
    refine zu rfl rfl rfl rfl (.c rfl (.c rfl .n)) ce60 (zLa (k1:=true) (u1:=u0_1) (v1:=u0_2) (q1:=((1:Int):Rat)) (k2:=true) (u2:=w4) (v2:=w5) (q2:=(l1.getD (n1 - 1) (0:Rat))) (hl:=by have h9:=hb (n1 - 1);omega) (hy:=by rw [← hn1];exact hl0)) (.c (j:=0) rfl (.c (j:=1) rfl .n)) ?_
    rintro ⟨u7_1,u7_2⟩ -
    dsimp only [aq,nq,cq]
    refine e_dm 8 rfl rfl rfl<|e_pv 9 rfl rfl (zm rfl rfl)<|e_pv 10 rfl rfl (zm rfl rfl) ?_
    exact zda (hD1 (u0_1,u0_2,u7_1,u7_2,u11_1)) kr ((.of rfl):SubM _ _) .rfl .rfl ((.of [0,1,2,3] rfl):SelR _ _ _)
  refine zBa (X:=Wd×Wd) (k':=7) (L':=(lb 14 127)) (fun (u0_1,u0_2)=>([(9,.agg (cw [u0_1,u0_2]).toArray),(15,.agg (cw [w4,w5]).toArray),(2,.slice none 0 0),(0,.slice p1 n1 c1)],[],[],[qF true u0_1 u0_2 ((1:Int):Rat),qF true w4 w5 (l1.getD (n1 - 1) (0:Rat)),slF rQ p1 c1 l1])) ?_ (fun hD4=> ?_)
  ·
   rintro ⟨u0_1,u0_2⟩
   dsimp only [cw]
   refine zcd 7 11 kr ?_ ?_
   ·
    refine zu rfl rfl rfl rfl (.c rfl (.c rfl .n)) ce60 (zLa (k1:=true) (u1:=u0_1) (v1:=u0_2) (q1:=((1:Int):Rat)) (k2:=true) (u2:=w4) (v2:=w5) (q2:=(l1.getD (n1 - 1) (0:Rat))) (hl:=by have h9:=hb (n1 - 1);omega) (hy:=by rw [← hn1];exact hl0)) (.c (j:=0) rfl (.c (j:=1) rfl .n)) ?_
    rintro ⟨u7_1,u7_2⟩ -
    dsimp only [aq,nq,cq]
    refine e_dm 8 rfl rfl rfl<|e_pv 9 rfl rfl (zm rfl rfl)<|e_pv 10 rfl rfl (zm rfl rfl) ?_
    exact zda (hD2 (u0_1,u0_2,u7_1,u7_2)) kr ((.of rfl):SubM _ _) .rfl .rfl ((.of [0,1,2,3] rfl):SelR _ _ _)
   ·
    refine zOa rfl rfl rfl rfl (zr zr28 rfl) (fun u11_1 _=> ?_)
    exact zda (hD3 (u0_1,u0_2,u11_1)) kr ((.of rfl):SubM _ _) .rfl .rfl ((.of [0,1,2] rfl):SelR _ _ _)
  refine zBa (X:=Nat) (k':=7) (L':=(lb 14 2174)) (fun u11_1=>([(3,.pointer (some ⟨u11_1,0,none⟩)),(15,.agg (cw [w4,w5]).toArray),(2,.slice none 0 0),(0,.slice p1 n1 c1)],[boxA u11_1 28 (cw [wz,wz])],[],[qF true w4 w5 (l1.getD (n1 - 1) (0:Rat)),slF rQ p1 c1 l1])) ?_ (fun hD5=> ?_)
  ·
   rintro u11_1
   dsimp only [cw]
   refine zAb 0 kr ?_
   ·
    refine zu rfl rfl rfl rfl (.c rfl .n) ce59 (zhb (z:=1) (hz:=by first|omega|rfl|assumption|decide)) (.n) ?_
    rintro ⟨u0_1,u0_2⟩ -
    dsimp only [aq,nq,cq]
    exact zda (hD3 (u0_1,u0_2,u11_1)) kr ((.of rfl):SubM _ _) .rfl .rfl ((.of [0,1,2] rfl):SelR _ _ _)
  refine zcd 0 11 kr ?_ ?_
  ·
   refine zu rfl rfl rfl rfl (.c rfl .n) ce59 (zhb (z:=1) (hz:=by first|omega|rfl|assumption|decide)) (.n) ?_
   rintro ⟨u0_1,u0_2⟩ -
   dsimp only [aq,nq,cq]
   exact zda (hD4 (u0_1,u0_2)) kr ((.of rfl):SubM _ _) .rfl .rfl ((.of [0,1,2] rfl):SelR _ _ _)
  ·
   refine zOa rfl rfl rfl rfl (zr zr28 rfl) (fun u11_1 _=> ?_)
   exact zda (hD5 u11_1) kr ((.of rfl):SubM _ _) .rfl .rfl ((.of [0,1] rfl):SelR _ _ _)
theorem zHf {p1:Option Addr} {n1:Nat} {c1:Nat} {l1:List (Option Rat)} {p2:Option Addr} {n2:Nat} {c2:Nat} {l2:List (Option Rat)} (hn1:l1.length=n1) (hm1:n1≤190) (hn2:l2.length=n2) (hm2:n2≤190) (hok:Po.gcok (Po.vals l1) (Po.vals l2)):Con yb 130 [.slice p1 n1 c1,.slice p2 n2 c2] [] [slF rE p1 c1 l1,slF rE p2 c2 l2] (Y:=(Option Addr)×Nat) (fun y=>True) (fun y=> .slice (y.1) ((Po.gcd (Po.vals l1) (Po.vals l2)).length) (y.2)) (fun y=>[]) (fun y=>[slF rQ (y.1) (y.2) (Po.gcd (Po.vals l1) (Po.vals l2))]):=by
 refine zl Tryz.func130 rfl rfl rfl (fun c=> ?_)
 show RunC _ _ _ _ _ [(0,.slice p1 n1 c1),(1,.slice p2 n2 c2)] [] [slF rE p1 c1 l1,slF rE p2 c2 l2]
 refine zQ 0 rfl (fun hL0=> ?_)
 refine zQ 1 rfl (fun hL1=> ?_)
 have hPl:(Po.cl (Po.vals l1)).length≤n1:=by rw [← hn1,←Po.vals_len l1];exact Po.cl_le_len _
 have hQl:(Po.cl (Po.vals l2)).length≤n2:=by rw [← hn2,←Po.vals_len l2];exact Po.cl_le_len _
 have hPm:=Po.mo_len (Po.cl (Po.vals l1))
 have hQm:=Po.mo_len (Po.cl (Po.vals l2))
 refine ze<|za<|e_p (zb rfl)<|zf<|zd<|ze<|za<|e_mv rfl<|zk rfl rfl (.c rfl .n) ce31 (zEa (p1:=p1) (n1:=n1) (c1:=c1) (l1:=l1) (hn1:=ass) (hm1:=by first|omega|rfl|assumption|exact Po.cl_cl _)) (.c (j:=0) rfl .n) ?_
 rintro ⟨p91,c92⟩ -
 dsimp only [aq,nq,cq]
 refine zk rfl rfl (.c rfl .n) ce131 (zHb (p1:=p91) (n1:=(Po.cl (Po.vals l1)).length) (c1:=c92) (l1:=(Po.cl (Po.vals l1))) (hn1:=by first|omega|rfl|assumption|exact Po.cl_cl _) (hm1:=by first|omega|rfl|assumption|exact Po.cl_cl _) (hcl:=by first|omega|rfl|assumption|exact Po.cl_cl _) (hb:=by exact Po.bd_cl hok.1)) (.c (j:=0) rfl .n) ?_
 rintro ⟨p93,c94⟩ -
 dsimp only [aq,nq,cq]
 refine e_mv rfl<|zk rfl rfl (.c rfl .n) ce31 (zEa (p1:=p2) (n1:=n2) (c1:=c2) (l1:=l2) (hn1:=ass) (hm1:=by first|omega|rfl|assumption|exact Po.cl_cl _)) (.c (j:=3) rfl .n) ?_
 rintro ⟨p95,c96⟩ -
 dsimp only [aq,nq,cq]
 refine zk rfl rfl (.c rfl .n) ce131 (zHb (p1:=p95) (n1:=(Po.cl (Po.vals l2)).length) (c1:=c96) (l1:=(Po.cl (Po.vals l2))) (hn1:=by first|omega|rfl|assumption|exact Po.cl_cl _) (hm1:=by first|omega|rfl|assumption|exact Po.cl_cl _) (hcl:=by first|omega|rfl|assumption|exact Po.cl_cl _) (hb:=by exact Po.bd_cl hok.2.1)) (.c (j:=0) rfl .n) ?_
 rintro ⟨p97,c98⟩ -
 dsimp only [aq,nq,cq]
 refine e_p (zb rfl)<|e_p (zb rfl)<|zf<|zd<|ze<|zy<|zfa (X:=Nat×(List Rat)×(List Rat)×(Option Addr)×Nat×(Option Addr)×Nat) (fun x:Nat×(List Rat)×(List Rat)×(Option Addr)×Nat×(Option Addr)×Nat=>(x.2.1.length≤190∧x.2.2.1.length≤x.1∧x.1≤190)∧(Po.cl x.2.1=x.2.1∧Po.cl x.2.2.1=x.2.2.1)∧Po.gok x.1 x.2.1 x.2.2.1∧Po.ge x.1 x.2.1 x.2.2.1=(Po.gcd (Po.vals l1) (Po.vals l2))) (fun x=>[(1,.slice (x.2.2.2.2.2.1) (x.2.2.1.length) (x.2.2.2.2.2.2)),(0,.slice (x.2.2.2.1) (x.2.1.length) (x.2.2.2.2.1)),(4,.slice none 0 0)]) (fun x=>[]) (fun x=>[slF rQ (x.2.2.2.1) (x.2.2.2.2.1) (x.2.1),slF rQ (x.2.2.2.2.2.1) (x.2.2.2.2.2.2) (x.2.2.1),slF rQ p97 c98 (Po.mo (Po.cl (Po.vals l2))),slF rQ p95 c96 (Po.cl (Po.vals l2)),slF rQ p93 c94 (Po.mo (Po.cl (Po.vals l1))),slF rQ p91 c92 (Po.cl (Po.vals l1)),slF rE p1 c1 l1,slF rE p2 c2 l2]) (fun x:Nat×(List Rat)×(List Rat)×(Option Addr)×Nat×(Option Addr)×Nat=>x.2.2.1.length) (((Po.cl (Po.vals l2)).length),(Po.mo (Po.cl (Po.vals l1))),(Po.mo (Po.cl (Po.vals l2))),p93,c94,p97,c98) (show ((Po.mo (Po.cl (Po.vals l1))).length≤190∧(Po.mo (Po.cl (Po.vals l2))).length≤((Po.cl (Po.vals l2)).length)∧((Po.cl (Po.vals l2)).length)≤190)∧(Po.cl (Po.mo (Po.cl (Po.vals l1)))=(Po.mo (Po.cl (Po.vals l1)))∧Po.cl (Po.mo (Po.cl (Po.vals l2)))=(Po.mo (Po.cl (Po.vals l2))))∧Po.gok ((Po.cl (Po.vals l2)).length) (Po.mo (Po.cl (Po.vals l1))) (Po.mo (Po.cl (Po.vals l2)))∧Po.ge ((Po.cl (Po.vals l2)).length) (Po.mo (Po.cl (Po.vals l1))) (Po.mo (Po.cl (Po.vals l2)))=(Po.gcd (Po.vals l1) (Po.vals l2)) from by exact ⟨⟨by omega,by omega,by omega⟩,⟨Po.mo_cl _,Po.mo_cl _⟩,hok.2.2,rfl⟩) ((.of rfl):SubM _ _) (ho:=(.n:PickO _ _ _)) ((.of [2,0,0,1,2,3,4,5] rfl):SelR _ _ _) ?_
 rintro ⟨f,p,q,pp,cp,pq,ck⟩ hI
 replace hI:(p.length≤190∧q.length≤f∧f≤190)∧(Po.cl p=p∧Po.cl q=q)∧Po.gok f p q∧Po.ge f p q=(Po.gcd (Po.vals l1) (Po.vals l2)):=hI
 try dsimp only
 obtain ⟨⟨hpl,hqf,hf⟩,⟨hcp,hcq⟩,hgk,hge⟩:=hI
 refine ze<|ze<|za<|e_mv rfl<|e_p (zD ya rfl)<|e_p (zwa rfl rfl)<|zf<|zd<|zC rfl (fun h16=> ?_) (fun h16=> ?_)
 ·
  have hg:=Po.gok_yes hgk (show q.length≠0 by omega) om
  have hrl:=(Po.dqr_len p q).2
  refine zB<|zd<|zy<|ze<|za<|e_mv rfl<|e_mv rfl<|zra (addQE 0 rfl)<|zra (addQE 2 rfl)<|zk rfl rfl (.c rfl (.c rfl .n)) ce26 (zxb (p1:=pp) (n1:=p.length) (c1:=cp) (l1:=(p.map some)) (p2:=pq) (n2:=q.length) (c2:=ck) (l2:=(q.map some)) (hn1:=by exact List.length_map _) (hm1:=by first|omega|rfl|assumption|exact Po.cl_cl _) (hn2:=by exact List.length_map _) (hm2:=by first|omega|rfl|assumption|exact Po.cl_cl _) (hm12:=by first|omega|rfl|assumption|exact Po.cl_cl _) (hb2:=by rw [Po.vals_some];exact hg.1.1) (hok:=by rw [Po.vals_some,Po.vals_some];exact hg.1.2)) (.c (j:=1) rfl (.c (j:=0) rfl .n)) ?_
  rintro ⟨p89,c810,p911,c912⟩ -
  dsimp only [aq,nq,cq]
  refine e_mv rfl<|e_p (zm rfl rfl)<|e_p (zm rfl rfl)<|e_p (zm rfl rfl)<|e_p (zb rfl)<|e_p (zb rfl)<|e_p (zb rfl)<|zf<|zd ?_
  have e13:(Po.dr (Po.vals (p.map some)) (Po.vals (q.map some)):List Rat)=Po.dr p q:=by rw [Po.vals_some,Po.vals_some]
  rw [e13]
  refine za<|e_mv rfl<|e_mv rfl<|zk rfl rfl (.c rfl .n) ce131 (zHb (p1:=p911) (n1:=(Po.dr p q).length) (c1:=c912) (l1:=(Po.dr p q)) (hn1:=by first|omega|rfl|assumption|exact Po.cl_cl _) (hm1:=by first|omega|rfl|assumption|exact Po.cl_cl _) (hcl:=by exact Po.dr_cl _ _) (hb:=by exact hg.2.1)) (.c (j:=1) rfl .n) ?_
  rintro ⟨p914,c915⟩ -
  dsimp only [aq,nq,cq]
  refine e_p (zb rfl)<|e_p (zb rfl)<|zf<|zN<|zZ ((f - 1),q,(Po.mo (Po.dr p q)),pq,ck,p914,c915) (show (q.length≤190∧(Po.mo (Po.dr p q)).length≤(f - 1)∧(f - 1)≤190)∧(Po.cl q=q∧Po.cl (Po.mo (Po.dr p q))=(Po.mo (Po.dr p q)))∧Po.gok (f - 1) q (Po.mo (Po.dr p q))∧Po.ge (f - 1) q (Po.mo (Po.dr p q))=(Po.gcd (Po.vals l1) (Po.vals l2)) from by have h9:=Po.mdr_len (p:=p) hcq (show q.length≠0 by omega) hqf;exact ⟨⟨by omega,h9,by omega⟩,⟨hcq,Po.mo_cl _⟩,hg.2.2,(Po.ge_yes om hqf).symm.trans hge⟩) (by have h9:=Po.mo_len (Po.dr p q);have h8:=Po.dr_less (p:=p) hcq (show q.length≠0 by omega);(show (Po.mo (Po.dr p q)).length<q.length;omega)) ((.of rfl):SubM _ _) (ho:=(.n:PickO _ _ _)) ((.of [6,0,7,8,9,10,11,12] rfl):SelR _ _ _)
 ·
  refine zea<|zi<|zi<|zw<|zd<|ze<|za<|e_mv rfl<|e_p (zb rfl)<|zf<|zd<|zE ?_
  have hv9:p=(Po.gcd (Po.vals l1) (Po.vals l2)):=(Po.ge_nil om).symm.trans hge
  exact zA Tryz.results130 (pp,cp) trivial (zp rfl) (by rw [← hv9]) (ho:=(.n:PickO _ _ _)) ((.e (j:=0) rfl (by rw [← hv9]) .n):SelR _ _ _)
theorem zIf {p1:Option Addr} {n1:Nat} {c1:Nat} {l1:List (Option Rat)} (hn1:l1.length=n1) (hm1:n1≤190) (hok:Po.sqok (Po.vals l1)):Con yb 102 [.slice p1 n1 c1] [] [slF rE p1 c1 l1] (Y:=(Option Addr)×Nat) (fun y=>True) (fun y=> .slice (y.1) ((Po.sqf (Po.vals l1)).length) (y.2)) (fun y=>[]) (fun y=>[slF rQ (y.1) (y.2) (Po.sqf (Po.vals l1))]):=by
 refine zl Tryz.func102 rfl rfl rfl (fun c=> ?_)
 show RunC _ _ _ _ _ [(0,.slice p1 n1 c1)] [] [slF rE p1 c1 l1]
 refine zQ 0 rfl (fun hL0=> ?_)
 refine ze<|za<|e_p (zb rfl)<|zf<|zd<|ze<|za<|e_mv rfl<|zk rfl rfl (.c rfl .n) ce31 (zEa (p1:=p1) (n1:=n1) (c1:=c1) (l1:=l1) (hn1:=ass) (hm1:=by first|omega|rfl|assumption|exact Po.cl_cl _)) (.c (j:=0) rfl .n) ?_
 rintro ⟨p91,c92⟩ -
 dsimp only [aq,nq,cq]
 refine e_p (zb rfl)<|zf<|zd<|ze<|ze ?_
 obtain ⟨P,hP⟩:∃z,z=(Po.cl (Po.vals l1)):=⟨_,rfl⟩
 have e3:(Po.cl (Po.vals l1):List Rat)=P:=by exact hP.symm
 rw [e3]
 have hPl:P.length≤n1:=by rw [hP,←hn1,←Po.vals_len l1];exact Po.cl_le_len _
 have hPd:=Po.der_len P
 refine za<|e_mv rfl<|e_p (zD ya rfl)<|e_p (zia rfl rfl)<|zf<|zd<|zC rfl (fun h10=> ?_) (fun h10=> ?_)
 ·
  refine ze<|za<|e_p (zb rfl)<|zf<|zd<|zE<|zq<|zJb rQ ?_
  have hv9:(Po.sqf (Po.vals l1))=[]:=if_pos (by rw [← hP];omega)
  exact zA Tryz.results102 (none,0) trivial (zp rfl) (by rw [hv9];rfl) (ho:=(.n:PickO _ _ _)) ((.e (j:=0) rfl (by rw [hv9]) .n):SelR _ _ _)
 ·
  obtain ⟨hk1,hk2,hk3⟩:=hok.2.2 (by rw [← hP];omega)
  rw [← hP] at hk1 hk2 hk3
  have hgl:=Po.gcd_len P (Po.der P)
  have hdl:=(Po.dqr_len P (Po.gcd P (Po.der P))).1
  refine zB<|zd<|ze<|za<|e_mv rfl<|e_mv rfl<|e_mv rfl<|zra (addQE 0 rfl)<|zk rfl rfl (.c rfl .n) ce25 (zKc (p1:=p91) (n1:=(P).length) (c1:=c92) (l1:=((P).map some)) (hn1:=by exact List.length_map _) (hm1:=by first|omega|rfl|assumption|exact Po.cl_cl _) (hb1:=by intro i;rw [Po.msome,hP,Po.cl_get];exact Nat.le_trans (hok.1 i) dd)) (.c (j:=0) rfl .n) ?_
  rintro ⟨p94,c95⟩ -
  dsimp only [aq,nq,cq]
  have e6:(Po.der (Po.vals ((P).map some)):List Rat)=Po.der P:=by rw [Po.vals_some]
  rw [e6]
  refine zra (addQE 0 rfl)<|zk rfl rfl (.c rfl (.c rfl .n)) ce130 (zHf (p1:=p91) (n1:=(P).length) (c1:=c92) (l1:=((P).map some)) (p2:=p94) (n2:=(Po.der P).length) (c2:=c95) (l2:=((Po.der P).map some)) (hn1:=by exact List.length_map _) (hm1:=by first|omega|rfl|assumption|exact Po.cl_cl _) (hn2:=by exact List.length_map _) (hm2:=by first|omega|rfl|assumption|exact Po.cl_cl _) (hok:=by rw [Po.vals_some,Po.vals_some];exact hk1)) (.c (j:=2) rfl (.c (j:=0) rfl .n)) ?_
  rintro ⟨p97,c98⟩ -
  dsimp only [aq,nq,cq]
  have e9:(Po.gcd (Po.vals ((P).map some)) (Po.vals ((Po.der P).map some)):List Rat)=Po.gcd P (Po.der P):=by rw [Po.vals_some,Po.vals_some]
  rw [e9]
  refine zra (addQE 0 rfl)<|zk rfl rfl (.c rfl (.c rfl .n)) ce26 (zxb (p1:=p91) (n1:=(P).length) (c1:=c92) (l1:=((P).map some)) (p2:=p97) (n2:=(Po.gcd P (Po.der P)).length) (c2:=c98) (l2:=((Po.gcd P (Po.der P)).map some)) (hn1:=by exact List.length_map _) (hm1:=by first|omega|rfl|assumption|exact Po.cl_cl _) (hn2:=by exact List.length_map _) (hm2:=by first|omega|rfl|assumption|exact Po.cl_cl _) (hm12:=by first|omega|rfl|assumption|exact Po.cl_cl _) (hb2:=by rw [Po.vals_some];exact hk2.1) (hok:=by rw [Po.vals_some,Po.vals_some];exact hk2.2)) (.c (j:=4) rfl (.c (j:=0) rfl .n)) ?_
  rintro ⟨p810,c811,p912,c913⟩ -
  dsimp only [aq,nq,cq]
  refine e_mv rfl<|e_p (zm rfl rfl)<|e_p (zm rfl rfl)<|e_p (zm rfl rfl)<|e_p (zb rfl)<|e_p (zb rfl)<|e_p (zb rfl)<|zf<|zd<|ze ?_
  have e14:(Po.dq (Po.vals ((P).map some)) (Po.vals ((Po.gcd P (Po.der P)).map some)):List Rat)=Po.dq P (Po.gcd P (Po.der P)):=by rw [Po.vals_some,Po.vals_some]
  rw [e14]
  refine za<|e_mv rfl<|zk rfl rfl (.c rfl .n) ce131 (zHb (p1:=p810) (n1:=(Po.dq P (Po.gcd P (Po.der P))).length) (c1:=c811) (l1:=(Po.dq P (Po.gcd P (Po.der P)))) (hn1:=by first|omega|rfl|assumption|exact Po.cl_cl _) (hm1:=by first|omega|rfl|assumption|exact Po.cl_cl _) (hcl:=by exact Po.dq_cl _ _) (hb:=by exact hk3)) (.c (j:=0) rfl .n) ?_
  rintro ⟨p915,c916⟩ -
  dsimp only [aq,nq,cq]
  refine e_p (zb rfl)<|zf<|zd<|zE ?_
  have hv9:(Po.sqf (Po.vals l1))=Po.mo (Po.dq P (Po.gcd P (Po.der P))):=by unfold Po.sqf;rw [← hP,if_neg om]
  exact zA Tryz.results102 (p915,c916) trivial (zp rfl) (by rw [hv9]) (ho:=(.n:PickO _ _ _)) ((.e (j:=0) rfl (by rw [hv9]) .n):SelR _ _ _)
end Go.Proofs.YtbiaimgafknkmaaGreat.Sp
namespace Go.Proofs.YtbiaimgafknkmaaGreat.Sp
open Go
set_option linter.unusedVariables false
set_option maxRecDepth 100000
set_option maxHeartbeats 8000000
theorem zme {pL:Option Addr} {nL:Nat} {cL:Nat} {L:List (List Rat)} {u1:Wd} {v1:Wd} {x1:Rat} (hnL:L.length=nL) (hmL:nL≤400) (hx:yd x1≤100000000000) (hv:Po.vok L x1):Con yb 103 [.slice pL nL cL,.agg #[u1.b,u1.l,v1.b,v1.l]] [] [slF (rS rQ) pL cL L,qF true u1 v1 x1] (Y:=Unit) (fun y=>True) (fun y=> .int .i64 (Po.vr L x1)) (fun y=>[]) (fun y=>[]):=by
 refine zl Tryz.func103 rfl rfl rfl (fun c=> ?_)
 show RunC _ _ _ _ _ [(0,.slice pL nL cL),(1,.agg #[u1.b,u1.l,v1.b,v1.l])] [] [slF (rS rQ) pL cL L,qF true u1 v1 x1]
 refine zQ 0 rfl (fun hL0=> ?_)
 refine ze<|za<|zH rfl rfl (zO rfl rfl) (fun b1=> ?_)
 refine e_p (zb rfl)<|zf<|zd<|ze<|za<|e_p (zb rfl)<|e_p (zb rfl)<|zf<|zd<|ze<|ze<|za<|e_mv rfl<|e_p (zD yf rfl)<|e_mv rfl<|zf<|zd<|zy<|zfa (X:=Nat×Int×Int) (fun x:Nat×Int×Int=>(x.1≤nL∧0≤x.2.1∧x.2.1≤x.1∧ -1≤x.2.2∧x.2.2≤1)∧Po.va x1 (L.drop x.1) x.2.1 x.2.2=Po.vr L x1) (fun x=>[(6,.int .i64 (x.2.2)),(5,.int .i64 (x.2.1)),(12,.int .i64 ((x.1:Nat):Int)),(11,.int .i64 ((nL:Nat):Int)),(10,.slice pL nL cL),(4,.int .i64 0),(3,.pointer (some ⟨b1,0,none⟩))]) (fun x=>[boxA b1 28 (cw [u1,v1])]) (fun x=>[slF (rS rQ) pL cL L,qF true u1 v1 x1]) (fun x:Nat×Int×Int=>nL - x.1) (0,0,0) (show (0≤nL∧0≤0∧0≤0∧ -1≤0∧0≤1)∧Po.va x1 (L.drop 0) 0 0=Po.vr L x1 from by exact ⟨by omega,rfl⟩) ((.c rfl (.c rfl (.e rfl (by first|rfl|(congr 1;omega)|simp_all) (.of rfl)))):SubM _ _) (ho:=((.c (i:=0) rfl .n):PickO _ _ _)) ((.of [0,1] rfl):SelR _ _ _) ?_
 rintro ⟨i,n,s⟩ hI
 replace hI:(i≤nL∧0≤n∧n≤i∧ -1≤s∧s≤1)∧Po.va x1 (L.drop i) n s=Po.vr L x1:=hI
 try dsimp only [cw]
 obtain ⟨⟨hi,hn0,hni,hs1,hs2⟩,hvr⟩:=hI
 have hss: -1≤s∧s≤1:=⟨hs1,hs2⟩
 refine ze<|za<|e_p (zba rfl rfl)<|zf<|zd<|ze<|zC rfl (fun h13=> ?_) (fun h13=> ?_)
 ·
  have hiL:i<nL:=by omega
  have hw:=hv (L.getD i []) (by rw [List.getD_eq_getElem?_getD,List.getElem?_eq_getElem om];exact List.getElem_mem _)
  have hva:=Po.va_step x1 (show i<L.length by omega) n s
  refine zB<|zd<|ze<|zy<|ze<|za<|r_vl rfl rfl (zla (x0:=(L.getD i [])) 0 i rfl yf sz23 rfl (by first|rfl|assumption|(simp;done)|omega) rfl rfl (gD (d:=[]) om)) ?_
  rintro ⟨b2,o3,p4,c5⟩ -
  dsimp only [aq,nq,cq]
  refine e_ru (zo (j:=0) 0 ty23 rfl rfl rfl rfl)<|e_p (zb rfl)<|zf<|zd<|ze<|za<|e_mv rfl<|e_ru (zc 0 ty28 rfl rfl (.t4 .nil))<|zra (addQe 3 rfl)<|zra (addQE 2 rfl)<|zk rfl rfl (.c rfl (.c rfl .n)) ce21 (zGd (p1:=p4) (n1:=(L.getD i []).length) (c1:=c5) (l1:=((L.getD i []).map some)) (u1:=u1) (v1:=v1) (x1:=(some x1)) (hn1:=by exact List.length_map _) (hm1:=by exact Nat.le_trans hw.1 dd) (hx:=by exact Nat.le_trans hx dd) (hb1:=by intro j;rw [Po.msome];exact Nat.le_trans (hw.2.1 j) dd) (hs:=by intro j;rw [Po.vals_some];exact hw.2.2 j)) (.c (j:=0) rfl (.c (j:=1) rfl .n)) ?_
  rintro ⟨w36,w47⟩ -
  dsimp only [aq,nq,cq]
  have e8:(Po.ev ((some x1).getD 0) (Po.vals ((L.getD i []).map some)):Rat)=Po.ev x1 (L.getD i []):=by rw [Po.vals_some];rfl
  rw [e8]
  refine zM rfl rfl (.c rfl .n) ce65 (zHc (k1:=true) (u1:=w36) (v1:=w47) (q1:=(Po.ev x1 (L.getD i [])))) (.c (j:=0) rfl .n)<|e_p (zb rfl)<|zf<|zd<|ze<|ze<|za<|e_mv rfl<|e_p (zia rfl rfl)<|zf<|zd<|zC rfl (fun h21=> ?_) (fun h21=> ?_)
  ·
   rw [if_pos h21] at hva
   refine zea<|zi<|zw<|zd<|za<|e_p (zK (z:=(((i+1):Nat):Int)) rfl rfl (w64 om))<|e_mv rfl<|zf<|zZ ((i+1),n,s) (show ((i+1)≤nL∧0≤n∧n≤(i+1)∧ -1≤s∧s≤1)∧Po.va x1 (L.drop (i+1)) n s=Po.vr L x1 from by exact ⟨by omega,hva.symm.trans hvr⟩) (by show nL - (i+1)<nL - i;omega) ((.of rfl):SubM _ _) (ho:=((.c (i:=0) rfl .n):PickO _ _ _)) ((.of [5,6] rfl):SelR _ _ _)
  ·
   rw [if_neg h21] at hva
   refine zB<|zd<|ze<|ze<|za<|e_mv rfl<|e_mv rfl<|e_p (zib (z:=(s*yj (Po.ev x1 (L.getD i [])))) rfl rfl (w64 (by exact ⟨rfl,Po.sg_mul hss (Big.sgq_rng _)⟩)))<|e_p (zba rfl rfl)<|zf<|zd<|zC rfl (fun h25=> ?_) (fun h25=> ?_)
   ·
    rw [if_pos h25] at hva
    refine za<|e_mv rfl<|e_p (zK (z:=(n+1)) rfl rfl (w64 om))<|e_p (zb rfl)<|zf<|zd<|za<|e_mv rfl<|e_p (zb rfl)<|zf<|zN<|zd<|za<|e_p (zK (z:=(((i+1):Nat):Int)) rfl rfl (w64 om))<|e_mv rfl<|zf<|zZ ((i+1),(n+1),yj (Po.ev x1 (L.getD i []))) (show ((i+1)≤nL∧0≤(n+1)∧(n+1)≤(i+1)∧ -1≤(yj (Po.ev x1 (L.getD i [])))∧(yj (Po.ev x1 (L.getD i [])))≤1)∧Po.va x1 (L.drop (i+1)) (n+1) (yj (Po.ev x1 (L.getD i [])))=Po.vr L x1 from by have h9:=Big.sgq_rng (Po.ev x1 (L.getD i []));exact ⟨by omega,hva.symm.trans hvr⟩) (by show nL - (i+1)<nL - i;omega) ((.of rfl):SubM _ _) (ho:=((.c (i:=0) rfl .n):PickO _ _ _)) ((.of [5,6] rfl):SelR _ _ _)
   ·
    rw [if_neg h25] at hva
    refine zB<|zd<|za<|e_mv rfl<|e_p (zb rfl)<|zf<|zN<|zd<|za<|e_p (zK (z:=(((i+1):Nat):Int)) rfl rfl (w64 om))<|e_mv rfl<|zf<|zZ ((i+1),n,yj (Po.ev x1 (L.getD i []))) (show ((i+1)≤nL∧0≤n∧n≤(i+1)∧ -1≤(yj (Po.ev x1 (L.getD i [])))∧(yj (Po.ev x1 (L.getD i [])))≤1)∧Po.va x1 (L.drop (i+1)) n (yj (Po.ev x1 (L.getD i [])))=Po.vr L x1 from by have h9:=Big.sgq_rng (Po.ev x1 (L.getD i []));exact ⟨by omega,hva.symm.trans hvr⟩) (by show nL - (i+1)<nL - i;omega) ((.of rfl):SubM _ _) (ho:=((.c (i:=0) rfl .n):PickO _ _ _)) ((.of [5,6] rfl):SelR _ _ _)
 ·
  refine zea<|zi<|zi<|zw<|zd<|ze<|za<|e_mv rfl<|e_p (zb rfl)<|zf<|zd<|zE ?_
  have hv9:n=Po.vr L x1:=by rw [← hvr,List.drop_eq_nil_of_le om];rfl
  exact zA Tryz.results103 () trivial (zp rfl) (by rw [hv9]) (ho:=(.n:PickO _ _ _)) (.n:SelR _ _ _)
theorem zZb {pL:Option Addr} {nL:Nat} {cL:Nat} {L:List (List Rat)} {u1:Wd} {v1:Wd} {x1:Rat} {u2:Wd} {v2:Wd} {x2:Rat} (hnL:L.length=nL) (hmL:nL≤400) (hx1:yd x1≤100000000000) (hx2:yd x2≤100000000000) (hv1:Po.vok L x1) (hv2:Po.vok L x2):Con yb 70 [.slice pL nL cL,.agg #[u1.b,u1.l,v1.b,v1.l],.agg #[u2.b,u2.l,v2.b,v2.l]] [] [slF (rS rQ) pL cL L,qF true u1 v1 x1,qF true u2 v2 x2] (Y:=Unit) (fun y=>True) (fun y=> .int .i64 (Po.bt L x1 x2)) (fun y=>[]) (fun y=>[]):=by
 refine zl Tryz.func70 rfl rfl rfl (fun c=> ?_)
 show RunC _ _ _ _ _ [(0,.slice pL nL cL),(1,.agg #[u1.b,u1.l,v1.b,v1.l]),(2,.agg #[u2.b,u2.l,v2.b,v2.l])] [] [slF (rS rQ) pL cL L,qF true u1 v1 x1,qF true u2 v2 x2]
 refine zQ 0 rfl (fun hL0=> ?_)
 have g1:=Po.vr_rng L x1
 have g2:=Po.vr_rng L x2
 refine ze<|za<|zH rfl rfl (zO rfl rfl) (fun b1=> ?_)
 refine zH rfl rfl (zO rfl rfl) (fun b2=> ?_)
 refine e_p (zb rfl)<|zf<|zd<|ze<|zU (OW:=[]) (O:=[boxA b2 28 (cw [u2,v2]),boxA b1 28 (cw [u1,v1])]) 100000 mixed (.then .ret) kr<|e_dm 0 rfl rfl rfl<|e_u 1 rfl rfl (zc 1 ty28 rfl rfl (.t4 .nil))<|e_dm 3 rfl rfl rfl<|e_u 4 rfl rfl (zc 0 ty28 rfl rfl (.t4 .nil))<|e_one 2 (zNa rfl rfl rfl rfl (.c rfl (.c rfl .n)) ce103 (zme (pL:=pL) (nL:=nL) (cL:=cL) (L:=L) (u1:=u1) (v1:=v1) (x1:=x1) (hnL:=ass) (hmL:=ass) (hx:=ass) (hv:=ass)) (.c (j:=0) rfl (.c (j:=1) rfl .n)) ?_)
 refine e_one 5 (zNa rfl rfl rfl rfl (.c rfl (.c rfl .n)) ce103 (zme (pL:=pL) (nL:=nL) (cL:=cL) (L:=L) (u1:=u2) (v1:=v2) (x1:=x2) (hnL:=ass) (hmL:=ass) (hx:=ass) (hv:=ass)) (.c (j:=0) rfl (.c (j:=2) rfl .n)) ?_)
 refine e_pv 6 rfl rfl (zY (z:=((Po.vr L x1) - (Po.vr L x2))) rfl rfl (w64 om))<|e_pv 7 rfl rfl (zb rfl)<|zT kr<|zd<|zE ?_
 exact zA Tryz.results70 () trivial (zp rfl) rfl (ho:=(.n:PickO _ _ _)) (.n:SelR _ _ _)
end Go.Proofs.YtbiaimgafknkmaaGreat.Sp
namespace Go.Proofs.YtbiaimgafknkmaaGreat.Sp
open Go
set_option linter.unusedVariables false
set_option maxRecDepth 100000
set_option maxHeartbeats 8000000
theorem zfc {p1:Option Addr} {n1:Nat} {c1:Nat} {l1:List (Option Rat)} (hn1:l1.length=n1) (hm1:n1≤190) (hok:Po.sok (Po.vals l1)):Con yb 67 [.slice p1 n1 c1] [] [slF rE p1 c1 l1] (Y:=(Option Addr)×Nat) (fun y=>True) (fun y=> .slice (y.1) ((Po.sturm (Po.vals l1)).length) (y.2)) (fun y=>[]) (fun y=>[slF (rS rQ) (y.1) (y.2) (Po.sturm (Po.vals l1))]):=by
 refine zl Tryz.func67 rfl rfl rfl (fun c=> ?_)
 show RunC _ _ _ _ _ [(0,.slice p1 n1 c1)] [] [slF rE p1 c1 l1]
 refine zQ 0 rfl (fun hL0=> ?_)
 refine ze<|za<|e_p (zb rfl)<|zf<|zd<|ze<|za<|e_mv rfl<|zk rfl rfl (.c rfl .n) ce102 (zIf (p1:=p1) (n1:=n1) (c1:=c1) (l1:=l1) (hn1:=ass) (hm1:=ass) (hok:=by exact hok.1)) (.c (j:=0) rfl .n) ?_
 rintro ⟨p91,c92⟩ -
 dsimp only [aq,nq,cq]
 refine e_p (zb rfl)<|zf<|zd<|ze<|ze ?_
 obtain ⟨A0,hA0⟩:∃z,z=(Po.sqf (Po.vals l1)):=⟨_,rfl⟩
 have e3:(Po.sqf (Po.vals l1):List Rat)=A0:=by exact hA0.symm
 rw [e3]
 have hAl:A0.length≤n1:=by rw [hA0,←hn1,←Po.vals_len l1];exact Po.sqf_len _
 have hAc:Po.cl A0=A0:=by rw [hA0];exact Po.sqf_cl _
 obtain ⟨hk1,hk2,hk3,hk4⟩:=hok
 rw [← hA0] at hk2 hk3 hk4
 have hAd:=Po.der_len A0
 refine za<|e_mv rfl<|e_p (zD ya rfl)<|e_p (zia rfl rfl)<|zf<|zd<|zC rfl (fun h13=> ?_) (fun h13=> ?_)
 ·
  refine ze<|za<|e_p (zb rfl)<|zf<|zd<|zE<|zq<|zJb (rS rQ) ?_
  have hv9:(Po.sturm (Po.vals l1))=[]:=if_pos (by rw [← hA0];omega)
  exact zA Tryz.results67 (none,0) trivial (zp rfl) (by rw [hv9];rfl) (ho:=(.n:PickO _ _ _)) ((.e (j:=0) rfl (by rw [hv9]) .n):SelR _ _ _)
 ·
  refine zB<|zd<|ze<|za<|e_mv rfl<|zsa rfl rfl (zsd 0 rfl yf inf23 rfl (by first|rfl|assumption|(simp;done)|omega)) (fun b4 _=> ?_)
  refine e_p (zb rfl)<|zf<|zd<|ze<|ze<|za<|e_mv rfl<|zra (addQE 0 rfl)<|zk rfl rfl (.c rfl .n) ce25 (zKc (p1:=p91) (n1:=(A0).length) (c1:=c92) (l1:=((A0).map some)) (hn1:=by exact List.length_map _) (hm1:=by first|rfl|assumption|omega|decide) (hb1:=by intro i;rw [Po.msome];exact Nat.le_trans (hk2 i) dd)) (.c (j:=0) rfl .n) ?_
  rintro ⟨p95,c96⟩ -
  dsimp only [aq,nq,cq]
  refine e_p (zb rfl)<|zf<|zd<|zy ?_
  have e7:(Po.der (Po.vals ((A0).map some)):List Rat)=Po.der A0:=by rw [Po.vals_some]
  rw [e7]
  refine zfa (X:=Nat×(List Rat)×(List Rat)×(Option Addr)×Nat×(Option Addr)×Nat×(Option Addr)×Nat×(List (List Rat))) (fun x:Nat×(List Rat)×(List Rat)×(Option Addr)×Nat×(Option Addr)×Nat×(Option Addr)×Nat×(List (List Rat))=>(x.2.1.length≤190∧x.2.2.1.length≤x.1∧x.1≤190∧x.2.2.2.2.2.2.2.2.2.length+x.1≤200)∧(Po.cl x.2.1=x.2.1∧Po.cl x.2.2.1=x.2.2.1)∧Po.stok x.1 x.2.1 x.2.2.1∧x.2.2.2.2.2.2.2.2.2++Po.st x.1 x.2.1 x.2.2.1=(Po.sturm (Po.vals l1))) (fun x=>[(4,.slice (x.2.2.2.2.2.2.2.1) (x.2.2.2.2.2.2.2.2.2.length) (x.2.2.2.2.2.2.2.2.1)),(5,.slice (x.2.2.2.2.2.1) (x.2.2.1.length) (x.2.2.2.2.2.2.1)),(3,.slice (x.2.2.2.1) (x.2.1.length) (x.2.2.2.2.1)),(2,.slice none 0 0)]) (fun x=>[rowA 23 (rS rQ) (x.2.2.2.2.2.2.2.1) (x.2.2.2.2.2.2.2.2.1) (x.2.2.2.2.2.2.2.2.2)]) (fun x=>[slF rQ (x.2.2.2.1) (x.2.2.2.2.1) (x.2.1),slF rQ (x.2.2.2.2.2.1) (x.2.2.2.2.2.2.1) (x.2.2.1),slF rQ p95 c96 (Po.der A0),slF rE p91 c92 ((A0).map some),slF rQ p91 c92 A0,slF rE p1 c1 l1]) (fun x:Nat×(List Rat)×(List Rat)×(Option Addr)×Nat×(Option Addr)×Nat×(Option Addr)×Nat×(List (List Rat))=>x.2.2.1.length) (A0.length,A0,(Po.der A0),p91,c92,p95,c96,some ⟨b4,0,none⟩,1,[A0]) (show (A0.length≤190∧(Po.der A0).length≤A0.length∧A0.length≤190∧([A0]).length+A0.length≤200)∧(Po.cl A0=A0∧Po.cl (Po.der A0)=(Po.der A0))∧Po.stok A0.length A0 (Po.der A0)∧([A0])++Po.st A0.length A0 (Po.der A0)=(Po.sturm (Po.vals l1)) from by exact ⟨⟨by omega,by omega,by omega,by show 1+A0.length≤200;omega⟩,⟨hAc,Po.der_cl _⟩,hk4,by unfold Po.sturm;rw [← hA0,if_neg om];rfl⟩) ((.e rfl (by first|rfl|(congr 1;omega)|simp_all) (.c rfl (.e rfl (by first|rfl|(congr 1;omega)|simp_all) (.c rfl .n)))):SubM _ _) (ho:=((.e (i:=0) rfl (by first|rfl|(congr 1;omega)|simp_all) .n):PickO _ _ _)) ((.e (j:=2) rfl (by first|rfl|simp_all) (.of [0,0,1,2,3] rfl)):SelR _ _ _) ?_
  rintro ⟨f,a,b,pa,ca,pb,cb,pR,cR,A⟩ hI
  replace hI:(a.length≤190∧b.length≤f∧f≤190∧A.length+f≤200)∧(Po.cl a=a∧Po.cl b=b)∧Po.stok f a b∧A++Po.st f a b=(Po.sturm (Po.vals l1)):=hI
  try dsimp only
  obtain ⟨⟨hal,hbf,hf,hAf⟩,⟨hca,hcb⟩,hsk,hst⟩:=hI
  refine ze<|ze<|za<|e_mv rfl<|e_p (zD ya rfl)<|e_p (zwa rfl rfl)<|zf<|zd<|zC rfl (fun h20=> ?_) (fun h20=> ?_)
  ·
   have hg:=Po.stok_yes hsk (show b.length≠0 by omega) om
   have hrl:=(Po.dqr_len a b).2
   refine zB<|zd<|zy<|ze<|za<|e_mv rfl<|e_mv rfl<|zsa rfl rfl (zsd 1 rfl yf inf23 rfl (by first|rfl|assumption|(simp;done)|omega)) (fun b8 _=> ?_)
   refine zV 0 rfl .z<|zza 1 rfl rfl rfl (zma 0 rfl yf inf23 dd rfl rfl (by first|rfl|assumption|(simp;done)|omega) rfl (by first|rfl|assumption|(simp;done)|omega) om om) (fun _=>(.s .z)) ?_
   rintro ⟨p9,c10⟩ -
   dsimp only [aq,nq,cq]
   refine e_p (zb rfl)<|zf<|zd<|ze<|za<|e_mv rfl<|e_mv rfl<|zra (addQE 1 rfl)<|zra (addQE 3 rfl)<|zk rfl rfl (.c rfl (.c rfl .n)) ce26 (zxb (p1:=pa) (n1:=a.length) (c1:=ca) (l1:=(a.map some)) (p2:=pb) (n2:=b.length) (c2:=cb) (l2:=(b.map some)) (hn1:=by exact List.length_map _) (hm1:=by first|rfl|assumption|omega|decide) (hn2:=by exact List.length_map _) (hm2:=by first|rfl|assumption|omega|decide) (hm12:=by first|rfl|assumption|omega|decide) (hb2:=by rw [Po.vals_some];exact hg.2.1.1) (hok:=by rw [Po.vals_some,Po.vals_some];exact hg.2.1.2)) (.c (j:=1) rfl (.c (j:=0) rfl .n)) ?_
   rintro ⟨p811,c812,p913,c914⟩ -
   dsimp only [aq,nq,cq]
   refine e_mv rfl<|e_p (zm rfl rfl)<|e_p (zm rfl rfl)<|e_p (zm rfl rfl)<|e_p (zb rfl)<|e_p (zb rfl)<|e_p (zb rfl)<|zf<|zd ?_
   have e15:(Po.dr (Po.vals (a.map some)) (Po.vals (b.map some)):List Rat)=Po.dr a b:=by rw [Po.vals_some,Po.vals_some]
   rw [e15]
   refine za<|e_mv rfl<|e_mv rfl<|zk rfl rfl (.c rfl .n) ce59 (zhb (z:=(-1)) (hz:=by first|rfl|assumption|omega|decide)) (.n) ?_
   rintro ⟨w316,w417⟩ -
   dsimp only [aq,nq,cq]
   refine zra (addQe 0 rfl)<|zra (addQE 3 rfl)<|zk rfl rfl (.c rfl (.c rfl .n)) ce19 (zZc (p1:=p913) (n1:=(Po.dr a b).length) (c1:=c914) (l1:=((Po.dr a b).map some)) (u1:=w316) (v1:=w417) (x1:=(some (((-1):Int):Rat))) (hn1:=by exact List.length_map _) (hm1:=by first|rfl|assumption|omega|decide) (hm9:=by first|rfl|assumption|omega|decide) (hb1:=by rw [Po.vals_some];exact fun i=>Nat.le_trans (hg.2.2.1 i) dd) (hb2:=by exact Po.bd_mono (Po.bd_one (x:=((-1:Int):Rat)) (L:=1) dd) dd) (hs:=by rw [Po.vals_some];intro k lo n h;exact Nat.le_trans (Po.cv_one_hq (L:=1) (Po.bd_cl hg.2.2.1) dd k lo n h) dd)) (.c (j:=0) rfl (.c (j:=1) rfl .n)) ?_
   rintro ⟨p918,c919⟩ -
   dsimp only [aq,nq,cq]
   refine e_p (zb rfl)<|e_p (zb rfl)<|zf<|zN ?_
   have e20:(Po.mul (Po.vals ((Po.dr a b).map some)) (Po.vals [(some (((-1):Int):Rat))]):List Rat)=Po.mul (Po.dr a b) [((-1:Int):Rat)]:=by rw [Po.vals_some];rfl
   rw [e20]
   refine zZ ((f - 1),b,(Po.mul (Po.dr a b) [((-1:Int):Rat)]),pb,cb,p918,c919,p9,c10,(A++([b]))) (show (b.length≤190∧(Po.mul (Po.dr a b) [((-1:Int):Rat)]).length≤(f - 1)∧(f - 1)≤190∧(A++([b])).length+(f - 1)≤200)∧(Po.cl b=b∧Po.cl (Po.mul (Po.dr a b) [((-1:Int):Rat)])=(Po.mul (Po.dr a b) [((-1:Int):Rat)]))∧Po.stok (f - 1) b (Po.mul (Po.dr a b) [((-1:Int):Rat)])∧(A++([b]))++Po.st (f - 1) b (Po.mul (Po.dr a b) [((-1:Int):Rat)])=(Po.sturm (Po.vals l1)) from by have h9:=Po.sdr_len (a:=a) hcb (show b.length≠0 by omega) hbf;exact ⟨⟨by omega,h9,by omega,by rw [List.length_append];show A.length+1+(f - 1)≤200;omega⟩,⟨hcb,Po.mul_cl _ _⟩,hg.2.2.2,by rw [List.append_assoc,List.singleton_append,←Po.st_yes om hbf];exact hst⟩) (by have h9:=Po.sdr_len (n:=b.length) (a:=a) hcb (show b.length≠0 by omega) (Nat.le_refl _);(show (Po.mul (Po.dr a b) [((-1:Int):Rat)]).length<b.length;omega)) ((.e rfl (by simp) (.of rfl)):SubM _ _) (ho:=((.c (i:=1) rfl .n):PickO _ _ _)) ((.of [10,0,11,12,13,14] rfl):SelR _ _ _)
  ·
   refine zea<|zi<|zi<|zw<|zd<|ze<|za<|e_mv rfl<|e_p (zb rfl)<|zf<|zd<|zE<|zYa 0 rfl .z ?_
   have hv9:A=(Po.sturm (Po.vals l1)):=by rw [← hst,Po.st_nil om,List.append_nil]
   exact zA Tryz.results67 (pR,cR) trivial (zp rfl) (by rw [← hv9]) (ho:=(.n:PickO _ _ _)) ((.e (j:=0) rfl (by rw [← hv9]) .n):SelR _ _ _)
end Go.Proofs.YtbiaimgafknkmaaGreat.Sp
namespace Go.Proofs.YtbiaimgafknkmaaGreat.Po
open Go.Proofs.YtbiaimgafknkmaaGreat.Big
theorem mo_ne {l:List Rat} (hl:cl l=l) (h:l.length≠0):(mo l).length≠0:=fun e=>by
  have h':l≠[]:=fun k=>h (by rw [k];rfl)
  have h0:=lead_ne hl h'
  have g:(mo l).getD (l.length - 1) 0=lead l*(((1:Int):Rat) / lead l):=by
    unfold mo
    rw [if_neg h,mul_one_get];rfl
  rw [List.length_eq_zero_iff.1 e] at g
  have g':(0:Rat)=lead l*(((1:Int):Rat) / lead l):=g
  rw [Rat.mul_comm,Rat.div_mul_cancel h0] at g'
  exact absurd g' (by decide +kernel)
theorem ge_ne:∀(n:Nat) (p q:List Rat),p.length≠0→(ge n p q).length≠0
  |0,_,_,h=>h
  |n+1,p,q,h=>by
    unfold ge
    split
    · exact h
    · rename_i h1;exact ge_ne n q _ h1
theorem gcd_ne {p q:List Rat} (h:(cl p).length≠0):(gcd p q).length≠0:=ge_ne _ _ _ (mo_ne (cl_cl p) h)
theorem pow_le {N a b:Nat} (h:a≤b) (K:Nat):(K+1)*(N+1)^a≤(K+1)*(N+1)^b:=Nat.mul_le_mul_left _ (Nat.pow_le_pow_right (by omega) h)
theorem sok_of {p:List Rat} (hl:p.length≤5) (h:cb 20 p):sok p∧∀q,q∈sturm p→q.length≤10∧bd 7000000000 q:=by
  have hP:cb 20 (cl p):=cb_cl h
  have hPl:=cl_le_len p
  have hD:cb 23 (der (cl p)):=cb_der hP (by omega)
  have hDl:=der_len (cl p)
  have hDc:=der_cl (cl p)
  have hsq:sqok p∧cb 400000 (sqf p):=by
    by_cases h0:(cl p).length=0
    · have e : sqf p = [] := if_pos h0
      refine ⟨⟨bd_mono (cb_bd h) (by decide),bd_mono (cb_bd hD) (by decide),fun k=>absurd h0 k⟩,?_⟩
      rw [e];exact cb_mono (cb_of_bd (l:=[]) (k:=1) (fun i=>by rw [gD0 (Nat.zero_le _),hq_zero];decide)) (by decide)
    · have hn : (der (cl p)).length ≤ 4 := by omega
      have hpw:=pow_le (N:=6) hn 23
      have h6:(23+1)*(6+1)^4=57624:=by decide
      have hg:=gok_cb (N:=6) (by decide) (der (cl p)).length 23 (mo (cl p)) (mo (der (cl p))) (mo_cl _) (mo_cl _) (cb_mo (cl_cl p) (cb_mono hP (by decide))) (cb_mo hDc hD) (by have:=mo_len (cl p);omega) (by have:=mo_len (der (cl p));omega) (by omega)
      have hG:cb 57624 (gcd (cl p) (der (cl p))):=by
        unfold gcd
        rw [cl_cl,hDc]
        exact cb_mono hg.2 (by omega)
      have hGn:(gcd (cl p) (der (cl p))).length≠0:=gcd_ne (by rw [cl_cl];exact h0)
      have hdiv:=(div_cb (N:=6) (cl_cl p) (gcd_cl _ _) hGn hP hG (by omega)).1
      refine ⟨⟨bd_mono (cb_bd h) (by decide),bd_mono (cb_bd hD) (by decide),fun _=>⟨⟨bd_mono (cb_bd hP) (by decide),bd_mono (cb_bd hD) (by decide),?_⟩,dgo_cb (N:=6) (cl_cl p) (gcd_cl _ _) hGn hP hG (by omega) (by decide) (by decide),bd_mono (cb_bd hdiv) (by decide)⟩⟩,?_⟩
      · rw [cl_cl,hDc];exact hg.1
      · unfold sqf
        rw [if_neg h0]
        exact cb_mo (dq_cl _ _) (cb_mono hdiv (by decide))
  obtain ⟨hs1,hs2⟩:=hsq
  have hsl:=sqf_len p
  have hsd:cb 400003 (der (sqf p)):=cb_der hs2 (by omega)
  have hsdl:=der_len (sqf p)
  have h5:(sqf p).length≤5:=by omega
  have hpw:=pow_le (N:=6) h5 400003
  have h6:(400003+1)*(6+1)^5=6722867228:=by decide
  have hst:=stok_cb (N:=6) (by decide) (sqf p).length 400003 (sqf p) (der (sqf p)) (sqf_cl p) (der_cl _) (cb_mono hs2 (by decide)) hsd (by omega) (by omega) (by omega)
  refine ⟨⟨hs1,bd_mono (cb_bd hs2) (by decide),bd_mono (cb_bd hsd) (by decide),hst.1⟩,fun q hq=> ?_⟩
  unfold sturm at hq
  split at hq
  · cases hq
  · rcases List.mem_cons.1 hq with rfl | hq
    · exact ⟨by omega,bd_mono (cb_bd hs2) (by decide)⟩
    · obtain ⟨k1, k2⟩ := hst.2 q hq
      exact ⟨by omega,bd_mono (cb_bd k2) (by omega)⟩
theorem vok_sturm {p:List Rat} {x:Rat} (h:∀q,q∈sturm p→q.length≤10∧bd 7000000000 q) (hx:hq x≤10000000000):vok (sturm p) x:=vok_of (K:=7000000000) hx h (by decide) (by decide)
theorem st_len:∀(n:Nat) (a b:List Rat),(st n a b).length≤n
  |0,_,_=>Nat.le_refl _
  |n+1,a,b=>by
    unfold st
    split
    · exact Nat.zero_le _
    · rw [List.length_cons];have:=st_len n b (mul (dr a b) [(((-1:Int)):Rat)]);omega
theorem sturm_len (p:List Rat):(sturm p).length≤p.length+1:=by
  unfold sturm
  split
  · exact Nat.zero_le _
  · rw [List.length_cons];have:=st_len (sqf p).length (sqf p) (der (sqf p));have:=sqf_len p;omega
def ofL (l:List Int):List Rat:=l.map (fun z:Int=>(z:Rat))
theorem ofL_take {l:List Int} {i:Nat} (h:i<l.length):ofL (l.take i)++[((l.getD i 0:Int):Rat)]=ofL (l.take (i+1)):=by
  unfold ofL
  rw [List.take_succ_eq_append_getElem h,List.map_append,List.getD_eq_getElem?_getD,List.getElem?_eq_getElem h]
  rfl
theorem hq_add1 {x:Rat} {K:Nat} (h:hq x≤K):hq (x+((1:Int):Rat))≤K+2:=by
  have:=hq_add x ((1:Int):Rat)
  have:hq ((1:Int):Rat)=1:=by decide
  omega
theorem bound_hq {P:List Rat} {K:Nat} (h:bd K P) (h0:lead P≠0):hq (bound P)≤K+K+2:=hq_add1 (bm_hq h h0 _)
end Go.Proofs.YtbiaimgafknkmaaGreat.Po
namespace Go.Proofs.YtbiaimgafknkmaaGreat.Po
open Go.Proofs.YtbiaimgafknkmaaGreat.Big
theorem bd_dec {l:List Rat} {K:Nat} (h:l.all (fun z=>decide (hq z≤K))=true) (hk:1≤K):bd K l:=fun i=>by
  rw [List.getD_eq_getElem?_getD]
  by_cases hi:i<l.length
  · rw [List.getElem?_eq_getElem hi]
    exact of_decide_eq_true (List.all_eq_true.1 h _ (List.getElem_mem hi))
  · rw [List.getElem?_eq_none (by omega)]
    show hq 0≤K
    rw [hq_zero];exact hk
theorem cb_dec {l:List Rat} (h:l.all (fun z=>decide (hq z≤1))=true) (hl:l.length≤19):cb 20 l:=cb_mono (cb_of_bd (bd_dec h (Nat.le_refl 1))) (by omega)
theorem cv_hq_len {K L:Nat} {p q:List Rat} (h1:bd K p) (h2:bd L q) (k lo:Nat):∀n,hq (cv p q k lo n)≤1+min n (p.length - lo)*(K+L+1)
  |0=>by show hq 0≤_;rw [hq_zero];omega
  |n+1=>by
    show hq (cv p q k lo n+p.getD (lo+n) 0*q.getD (k - (lo+n)) 0)≤_
    have e3:=cv_hq_len h1 h2 k lo n
    by_cases h:lo+n<p.length
    · have e1 := hq_add (cv p q k lo n) (p.getD (lo + n) 0 * q.getD (k - (lo + n)) 0)
      have e2:=hq_mul (p.getD (lo+n) 0) (q.getD (k - (lo+n)) 0)
      have e4:=h1 (lo+n)
      have e5:=h2 (k - (lo+n))
      rw [show min (n+1) (p.length - lo)=min n (p.length - lo)+1 by omega,Nat.succ_mul]
      omega
    · rw [gD0 (l := p) (by omega), show min (n + 1) (p.length - lo) = min n (p.length - lo) by omega, Rat.zero_mul, Rat.add_zero]
      exact e3
theorem cv_hq_of {K L N:Nat} {p q:List Rat} (h1:bd K p) (h2:bd L q) (hl:p.length≤N) (hb:1+N*(K+L+1)≤200000000000) (k lo n:Nat):hq (cv p q k lo n)≤200000000000:=by
  refine Nat.le_trans (cv_hq_len h1 h2 k lo n) (Nat.le_trans (Nat.add_le_add_left (Nat.mul_le_mul_right _ ?_) _) hb)
  omega
theorem dgo_of {p q:List Rat} (hp:cb 20 p) (hq':cb 20 q) (lp:p.length≤5) (hn:(cl q).length≠0):bd 60000000000 q∧dok (cl q) ((cl p).length+1) [] (cl p):=by
  have h:=dgo_cb (N:=6) (cl_cl p) (cl_cl q) hn (cb_cl hp) (cb_cl hq') (by have:=cl_le_len p;omega) (by decide) (by decide)
  have h2:=h.2
  rw [cl_cl,cl_cl] at h2
  exact ⟨bd_mono (cb_bd hq') (by decide),h2⟩
def isT (l:List (List Rat)):Nat→Rat→Rat→Bool
  |0,_,_=>false
  |n+1,a,b=>decide (bt l a b=0)||decide (bt l a b=1)||(isT l n a (mid a b)&&isT l n (mid a b) b)
theorem isk_of {l:List (List Rat)} (hl:∀q,q∈l→q.length≤10∧bd 7000000000 q):∀(n M:Nat) (a b:Rat),hq a≤M→hq b≤M→(M+2)*2^n≤10000000000→isT l n a b=true→isk l n a b
  |0,_,_,_,_,_,_,h=>by cases h
  |n+1,M,a,b,ha,hb,hM,h=>by
    have e1:(M+2)*2^(n+1)=(2*M+2+2)*2^n:=by rw [Nat.pow_succ,Nat.mul_comm (2^n) 2,←Nat.mul_assoc];congr 1;omega
    have e2:M+2≤(M+2)*2^(n+1):=Nat.le_mul_of_pos_right _ (Nat.pow_pos (by decide))
    have hm:hq (mid a b)≤2*M+2:=by have:=mid_hq ha hb;omega
    refine ⟨⟨by omega,by omega,vok_of (K:=7000000000) (M:=10000000000) (by omega) hl (by decide) (by decide),vok_of (K:=7000000000) (M:=10000000000) (by omega) hl (by decide) (by decide)⟩,fun h0 h1=> ?_⟩
    unfold isT at h
    rw [decide_eq_false h0,decide_eq_false h1,Bool.false_or,Bool.false_or,Bool.and_eq_true] at h
    exact ⟨isk_of hl n (2*M+2) a (mid a b) (by omega) hm (by omega) h.1,isk_of hl n (2*M+2) (mid a b) b hm (by omega) (by omega) h.2⟩
def e1:List Rat:=ofL [-2,1,1]
def e2:List Rat:=ofL [-2,0,1]
def e3:List Rat:=ofL [0,-1,0,1]
def eR:List (Rat×Rat):=[(((-3:Int):Rat),((0:Int):Rat)),(((0:Int):Rat),((3:Int):Rat))]
theorem ex_mul:mul (ofL [-1,1]) (ofL [2,1])=e1:=by decide +kernel
theorem ex_q:dq e1 (ofL [-1,1])=ofL [2,1]:=by decide +kernel
theorem ex_r:dr e1 (ofL [-1,1])=[]:=by decide +kernel
theorem ex_c:dc (ofL [-1,1])=0:=by decide +kernel
theorem ex_T:isT (sturm e2) 10 (- bound (cl e2)) (bound (cl e2))=true:=by decide +kernel
theorem ex_iso:iso (sturm e2) 10 (- bound (cl e2)) (bound (cl e2))=eR:=by decide +kernel
theorem ex_bt:bt (sturm e3) ((-1:Int):Rat) ((1:Int):Rat)=2:=by decide +kernel
theorem ex_ne2:(sturm e2).length≠0:=by decide +kernel
theorem ex_ne3:(sturm e3).length≠0:=by decide +kernel
theorem ex_s2:sok e2∧∀q,q∈sturm e2→q.length≤10∧bd 7000000000 q:=sok_of (by decide) (cb_dec (by decide +kernel) (by decide))
theorem ex_s3:sok e3∧∀q,q∈sturm e3→q.length≤10∧bd 7000000000 q:=sok_of (by decide) (cb_dec (by decide +kernel) (by decide))
theorem ex_k2:isk (sturm e2) 10 (- bound (cl e2)) (bound (cl e2)):=isk_of ex_s2.2 10 1 _ _ (by decide +kernel) (by decide +kernel) (by decide) ex_T
theorem ex_l2:(sturm e2).length≤200:=by decide +kernel
theorem ex_l3:(sturm e3).length≤200:=by decide +kernel
end Go.Proofs.YtbiaimgafknkmaaGreat.Po
namespace Go.Proofs.YtbiaimgafknkmaaGreat.Sp
open Go
set_option linter.unusedVariables false
set_option maxRecDepth 100000
set_option maxHeartbeats 8000000
theorem zfg {s:Bool} {p:Option Addr} {n:Nat} {cap:Nat} {l:List Int} (hn:l.length=n) (hln:Big.ln (yl s l)≤4398046511104):Con yb 134 [.agg #[.bool s,.slice p n cap]] [] [slF (rI .u32) p cap l] (Y:=(Option Addr)×Nat) (fun y=>True) (fun y=> .agg #[.bool (decide ((((yl s l).natAbs:Nat):Int)<0)),.slice (y.1) ((yk ((((yl s l).natAbs:Nat):Int).natAbs)).length) (y.2)]) (fun y=>[]) (fun y=>[slF (rI .u32) (y.1) (y.2) (yk ((((yl s l).natAbs:Nat):Int).natAbs))]):=by
 refine zl Tryz.func134 rfl rfl rfl (fun c=> ?_)
 show RunC _ _ _ _ _ [(0,.agg #[.bool s,.slice p n cap])] [] [slF (rI .u32) p cap l]
 refine zQ 0 rfl (fun hL0=> ?_)
 refine zHa 0 rfl (fun hE0=> ?_)
 have hnn:Big.nn l:=fun g hg=>(zt.1 (hE0 g hg)).1
 unfold Big.ln at hln
 refine ze<|za<|zH rfl rfl (zO rfl rfl) (fun b1=> ?_)
 refine zH rfl rfl (zr zr26 rfl) (fun b2=> ?_)
 refine zf<|zd<|ze<|za<|e_ru (zc 1 ty26 rfl rfl (.t2 .nil))<|zk rfl rfl (.c rfl .n) ce113 (zFa (s:=s) (p:=p) (n:=n) (cap:=cap) (l:=l) (hn:=ass)) (.c (j:=0) rfl .n) ?_
 rintro ⟨p23,c24⟩ -
 dsimp only [aq,nq,cq]
 refine zk rfl rfl (.c rfl .n) ce129 (zsc (a:=(yl s l).natAbs) (p:=p23) (cap:=c24) (hb:=cbb)) (.c (j:=0) rfl .n) ?_
 rintro ⟨p25,c26⟩ -
 dsimp only [aq,nq,cq]
 refine zk rfl rfl (.c rfl (.c rfl .n)) ce114 (zta (s:=false) (a:=((yl s l).natAbs)) (p:=p25) (cap:=c26)) (.c (j:=0) rfl .n) ?_
 rintro ⟨p27,c28⟩ -
 dsimp only [aq,nq,cq]
 refine zj 0 rfl rfl rfl rfl rfl sz26 rfl (.t2 .nil) .z<|zf<|zd<|zE ?_
 have hz:Big.sg false ((yl s l).natAbs:Int)=(((yl s l).natAbs:Nat):Int):=rfl
 exact zA Tryz.results134 (p27,c28) trivial (zn 0 ty26 rfl rfl (.t2 .nil)) (by rw [hz]) (ho:=(.n:PickO _ _ _)) ((.e (j:=0) rfl (by rw [hz]) .n):SelR _ _ _)
theorem zJf {z:Int} {p:Option Addr} {cap:Nat} (hln:Big.ln z≤4398046511104):Con yb 134 [.agg #[.bool (decide ((z)<0)),.slice (p) ((yk ((z).natAbs)).length) (cap)]] [] [slF (rI .u32) (p) (cap) (yk ((z).natAbs))] (Y:=(Option Addr)×(Nat)) (fun y=>True) (fun y=> .agg #[.bool (decide ((((z.natAbs:Nat):Int))<0)),.slice (y.1) ((yk ((((z.natAbs:Nat):Int)).natAbs)).length) (y.2)]) (fun y=>[]) (fun y=>[slF (rI .u32) (y.1) (y.2) (yk ((((z.natAbs:Nat):Int)).natAbs))]):=by
  have h:= @zfg (decide ((z)<0)) p (yk (z).natAbs).length cap (yk (z).natAbs) rfl (by rw [Big.raw_big];exact hln)
  rw [Big.raw_big] at h
  exact h
theorem zKf {w1:Wd} {x1:Int} (hln:Big.ln x1≤4398046511104):Con yb 134 [.agg #[w1.b,w1.l]] [] [zF w1 (x1)] (Y:=(Wd)) (fun y=>True) (fun y=> .agg #[y.b,y.l]) (fun y=>[]) (fun y=>[zF y (((x1.natAbs:Nat):Int))]):=by
  exact zBb (zSc (fun p c=>zJf hln))
end Go.Proofs.YtbiaimgafknkmaaGreat.Sp
namespace Go.Proofs.YtbiaimgafknkmaaGreat.Sp
open Go
set_option linter.unusedVariables false
set_option maxRecDepth 100000
set_option maxHeartbeats 8000000
theorem zLf {k1:Bool} {u1:Wd} {v1:Wd} {q1:Rat} (hl:yd q1≤1099511627776):Con yb 108 [.agg #[u1.b,u1.l,v1.b,v1.l]] [] [qF k1 u1 v1 q1] (Y:=Wd×Wd) (fun y=>True) (fun y=> .agg #[y.1.b,y.1.l,y.2.b,y.2.l]) (fun y=>[]) (fun y=>[qF true y.1 y.2 (Big.qabs q1)]):=by
 refine zl Tryz.func108 rfl rfl rfl (fun c=> ?_)
 show RunC _ _ _ _ _ [(0,.agg #[u1.b,u1.l,v1.b,v1.l])] [] [qF k1 u1 v1 q1]
 have a1:=Big.hq_num q1
 have a2:=Big.hq_den q1
 refine ze<|za<|zH rfl rfl (zO rfl rfl) (fun b1=> ?_)
 refine zH rfl rfl (zr zr28 rfl) (fun b2=> ?_)
 refine zf<|zd<|ze<|za<|e_ru (zc 1 ty28 rfl rfl (.t4 .nil))<|zk rfl rfl (.c rfl .n) ce53 (zaa (k1:=k1) (u1:=u1) (v1:=v1) (q1:=q1)) (.c (j:=0) rfl .n) ?_
 rintro ⟨w33,w44⟩ -
 dsimp only [aq,nq,cq]
 refine zj 1 rfl rfl rfl rfl rfl sz28 rfl (.t4 .nil) (.s .z)<|zf<|zd<|ze<|zU (OW:=[boxA b2 28 (cw [wz,wz])]) (O:=[boxA b1 28 (cw [w33,w44])]) 6 mixed (.then .ret) kr<|e_pv 0 rfl rfl (zg yi rfl sz26 rfl rfl)<|e_uw 1 rfl rfl (zc 1 ty26 rfl rfl (.t2 .nil))<|e_pv 3 rfl rfl (zg yi rfl sz26 rfl rfl)<|e_uw 4 rfl rfl (zc 1 ty26 rfl rfl (.s2 (.t2 .nil)))<|znb (qF_open 0 rfl) (fun _ _=> ?_)
 refine e_one 2 (zu rfl rfl rfl rfl (.c rfl .n) ce134 (zKf (w1:=w33) (x1:=(q1).num) (hln:=by first|rfl|assumption|omega|(rw [Big.zI];omega)|(decide +kernel))) (.c (j:=0) rfl .n) ?_)
 rintro w35 -
 dsimp only [aq,nq,cq]
 refine e_pv 5 rfl rfl (zG zr28 rfl yi (.c sz26 (.c sz26 .n)) (.c rfl (.c rfl .n)) (.c rfl rfl rfl (.t2 .nil) (.c rfl rfl rfl (.s2 (.t2 .nil)) .n)))<|e_one 6 (zv kr rfl rfl rfl rfl rfl sz28 rfl (.t4 .nil) ?_)
 refine zT kr<|zd<|zE<|zbb (qF true w35 w44 (Big.qabs q1)) (qF_close 0 2 rfl rfl (by exact ⟨(Big.qabs_num q1).symm,by rw [Big.qabs_den],by rw [Big.hq_qabs];exact hl⟩)) ?_
 exact zA Tryz.results108 (w35,w44) trivial (zn 0 ty28 rfl rfl (.t4 .nil)) rfl (ho:=(.n:PickO _ _ _)) ((.c (j:=0) rfl .n):SelR _ _ _)
end Go.Proofs.YtbiaimgafknkmaaGreat.Sp
namespace Go.Proofs.YtbiaimgafknkmaaGreat.Sp
open Go
set_option linter.unusedVariables false
set_option maxRecDepth 100000
set_option maxHeartbeats 8000000
theorem zDe {p1:Option Addr} {n1:Nat} {c1:Nat} {l1:List (Option Rat)} (hn1:l1.length=n1) (hm1:n1≤190) (hb:Po.bd 60000000000 (Po.vals l1)) (hne:(Po.cl (Po.vals l1)).length≠0):Con yb 78 [.slice p1 n1 c1] [] [slF rE p1 c1 l1] (Y:=Wd×Wd) (fun y=>True) (fun y=> .tuple #[.agg #[y.1.b,y.1.l,y.2.b,y.2.l],.int .i64 0]) (fun y=>[]) (fun y=>[qF true y.1 y.2 (Po.bound (Po.cl (Po.vals l1)))]):=by
 refine zl Tryz.func78 rfl rfl rfl (fun c=> ?_)
 show RunC _ _ _ _ _ [(0,.slice p1 n1 c1)] [] [slF rE p1 c1 l1]
 refine zQ 0 rfl (fun hL0=> ?_)
 refine ze<|za<|zH rfl rfl (zr zr28 rfl) (fun b1=> ?_)
 refine e_p (zb rfl)<|zf<|zd<|ze<|za<|e_mv rfl<|zk rfl rfl (.c rfl .n) ce31 (zEa (p1:=p1) (n1:=n1) (c1:=c1) (l1:=l1) (hn1:=ass) (hm1:=by first|omega|rfl|assumption|decide)) (.c (j:=0) rfl .n) ?_
 rintro ⟨p92,c93⟩ -
 dsimp only [aq,nq,cq]
 refine e_p (zb rfl)<|zf<|zd<|ze<|ze ?_
 obtain ⟨P,hP⟩:∃z,z=(Po.cl (Po.vals l1)):=⟨_,rfl⟩
 have e4:(Po.cl (Po.vals l1):List Rat)=P:=by exact hP.symm
 rw [e4]
 refine zQ 0 rfl (fun hLP=> ?_)
 have hPl:P.length≤n1:=by rw [hP,←hn1,←Po.vals_len l1];exact Po.cl_le_len _
 have hbP:Po.bd 60000000000 P:=by rw [hP];exact Po.bd_cl hb
 rw [← hP] at hne
 have hPn:P≠[]:=fun e=>hne (by rw [e];rfl)
 have hl0:Po.lead P≠0:=Po.lead_ne (by rw [hP];exact Po.cl_cl _) hPn
 have hlq:=Po.lead_hq hbP
 refine za<|e_mv rfl<|e_p (zD ya rfl)<|e_p (zia rfl rfl)<|zf<|zd<|zC rfl (fun h13=> ?_) (fun h13=> ?_)
 ·
  omega
 ·
  refine zB<|zd<|ze<|za<|zk rfl rfl (.n) ce50 (zEb) (.n) ?_
  rintro ⟨w35,w46⟩ -
  dsimp only [aq,nq,cq]
  refine zH rfl rfl (zr zr28 rfl) (fun b7=> ?_)
  refine zj 0 rfl rfl rfl rfl rfl sz28 rfl (.t4 .nil) .z<|zf<|zd<|ze<|ze<|za<|e_mv rfl<|e_mv rfl<|e_p (zD ya rfl)<|e_p (zY (z:=((((P).length:Nat):Int) - 1)) rfl rfl (w64 om)) ?_
  have e8:(((((P).length:Nat):Int) - 1):Int)=(((P.length - 1):Nat):Int):=by omega
  rw [e8]
  refine e_p (zmb (hi:=(P.length - 1)) ya sz28 rfl (.s rfl) (.inr ⟨_,rfl⟩) om)<|zOb (zPb 1 rfl (P.length - 1) om) (fun _ _=> ?_)
  refine e_p (zD ya rfl)<|e_mv rfl<|zf<|zd<|zy<|zfa (X:=Nat×Wd×Wd) (fun x:Nat×Wd×Wd=>x.1≤P.length - 1) (fun x=>[(22,.int .i64 ((x.1:Nat):Int)),(21,.int .i64 (((P.length - 1):Nat):Int)),(20,.slice p92 (P.length - 1) c93),(4,.pointer (some ⟨b7,0,none⟩)),(0,.slice p92 ((P).length) c93),(3,.int .i64 0),(2,.pointer (some ⟨b1,0,none⟩))]) (fun x=>[boxA b7 28 (cw [x.2.1,x.2.2]),boxA b1 28 (cw [wz,wz])]) (fun x=>[qF true x.2.1 x.2.2 (Po.bm P x.1),slF rQ p92 c93 ((P).take (P.length - 1)),qF true w35 w46 ((0:Int):Rat),slF rQ p92 c93 P,slF rE p1 c1 l1]) (fun x:Nat×Wd×Wd=>P.length - 1 - x.1) (0,w35,w46) (show 0≤P.length - 1 from by exact Nat.zero_le _) ((.e rfl (by first|rfl|(congr 1;omega)|simp_all) (.of rfl)):SubM _ _) (ho:=((.of [0,0] rfl):PickO _ _ _)) ((.e (j:=1) rfl rfl (.of [0,1,2,3] rfl)):SelR _ _ _) ?_
  rintro ⟨i,su,sv⟩ hI
  replace hI:i≤P.length - 1:=hI
  try dsimp only [cw]
  refine ze<|za<|e_p (zba rfl rfl)<|zf<|zd<|ze<|zC rfl (fun h23=> ?_) (fun h23=> ?_)
  ·
   refine zB<|zd<|ze<|zy<|ze<|za<|r_vl rfl rfl (zla (x0:=(((P).take (P.length - 1)).getD i (0:Rat))) 1 i rfl ya sz28 rfl (by first|rfl|assumption|(simp;done)|omega|(rw [List.length_take];omega)) rfl rfl (gD (d:=(0:Rat)) (by first|omega|(rw [List.length_take];omega)))) ?_
   rintro ⟨b9,o10,w11,w12⟩ -
   dsimp only [aq,nq,cq]
   refine zra open_rQ<|e_ru (zS (j:=0) 0 ty28 rfl rfl rfl (.t4 .nil))<|zH rfl rfl (zr zr28 rfl) (fun b13=> ?_)
   refine zj 0 rfl rfl rfl rfl rfl sz28 rfl (.t4 .nil) .z<|zf<|zd<|ze ?_
   have e14:((P).take (P.length - 1)).getD i (0:Rat)=P.getD i 0:=by exact Po.take_get om
   rw [e14]
   refine zU (OW:=[]) (O:=[boxA b13 28 (cw [w11,w12]),boxA b7 28 (cw [su,sv]),boxA b1 28 (cw [wz,wz])]) 12 mixed (.then (.block (.then (.then (.block (.then .ret)))))) kr<|e_u 0 rfl rfl (zc 0 ty28 rfl rfl (.t4 .nil))<|e_dm 1 rfl rfl rfl<|e_dm 2 rfl rfl rfl<|e_pv 3 rfl rfl (zD ya rfl)<|e_pv 4 rfl rfl (zY (z:=((((P).length:Nat):Int) - 1)) rfl rfl (w64 om)) ?_
   have e15:(((((P).length:Nat):Int) - 1):Int)=(((P.length - 1):Nat):Int):=by omega
   rw [e15]
   refine d_vl 5 rfl rfl kr kr rfl rfl (zla (x0:=((P).getD (P.length - 1) (0:Rat))) 5 (P.length - 1) rfl ya sz28 rfl (by first|rfl|assumption|(simp;done)|omega|(rw [List.length_take];omega)) rfl rfl (gD (d:=(0:Rat)) om)) ?_
   rintro ⟨b16,o17,w18,w19⟩ -
   dsimp only [aq,nq,cq]
   refine zVa open_rQ<|e_u 6 rfl rfl (zS (j:=0) 0 ty28 rfl rfl rfl (.t4 .nil))<|zrd (m':=[(33,.agg (cw [w18,w19]).toArray),(27,.agg (cw [w11,w12]).toArray),(22,.int .i64 ((i:Nat):Int)),(21,.int .i64 (((P.length - 1):Nat):Int)),(20,.slice p92 (P.length - 1) c93),(4,.pointer (some ⟨b7,0,none⟩)),(0,.slice p92 ((P).length) c93),(3,.int .i64 0),(2,.pointer (some ⟨b1,0,none⟩))]) (R':=[qF true w18 w19 ((P).getD (P.length - 1) (0:Rat)),qF true w11 w12 (P.getD i 0),qF true su sv (Po.bm P i),slF rQ p92 c93 ((P).take (P.length - 1)),qF true w35 w46 ((0:Int):Rat),slF rQ p92 c93 P,slF rE p1 c1 l1]) ((.of rfl):SubM _ _) (List.Perm.refl _) (List.Perm.refl _) ((.of [1,3,4,5,6,7,8] rfl):SelR _ _ _)<|zBa (X:=Wd×Wd×Nat) (k':=0) (L':=(lb 14 16383)) (fun (u7_1,u7_2,u11_1)=>([(7,.pointer (some ⟨u11_1,0,none⟩)),(22,.int .i64 ((i:Nat):Int)),(21,.int .i64 (((P.length - 1):Nat):Int)),(20,.slice p92 (P.length - 1) c93),(4,.pointer (some ⟨b7,0,none⟩)),(0,.slice p92 ((P).length) c93),(3,.int .i64 0),(2,.pointer (some ⟨b1,0,none⟩))],[boxA u11_1 28 (cw [u7_1,u7_2])],[boxA b13 28 (cw [w11,w12]),boxA b7 28 (cw [su,sv]),boxA b1 28 (cw [wz,wz])],[qF true u7_1 u7_2 ((P.getD i 0) / ((P).getD (P.length - 1) (0:Rat))),qF true w18 w19 ((P).getD (P.length - 1) (0:Rat)),qF true w11 w12 (P.getD i 0),qF true su sv (Po.bm P i),slF rQ p92 c93 ((P).take (P.length - 1)),qF true w35 w46 ((0:Int):Rat),slF rQ p92 c93 P,slF rE p1 c1 l1])) ?_ (fun hD0=> ?_)
   ·
    rintro ⟨u7_1,u7_2,u11_1⟩
    dsimp only [cw]
    refine zT kr<|zd<|ze<|za<|e_ru (zc 0 ty28 rfl rfl (.t4 .nil))<|zk rfl rfl (.c rfl .n) ce108 (zLf (k1:=true) (u1:=u7_1) (v1:=u7_2) (q1:=(P.getD i 0) / ((P).getD (P.length - 1) (0:Rat))) (hl:=by have h1:=hbP i;have h2:=Big.hq_div (P.getD i 0) (y:=P.getD (P.length - 1) 0) hl0;have h3:yd (P.getD (P.length - 1) 0)≤60000000000:=hbP _;omega)) (.c (j:=0) rfl .n) ?_
    rintro ⟨w320,w421⟩ -
    dsimp only [aq,nq,cq]
    refine zj 0 rfl rfl rfl rfl rfl sz28 rfl (.t4 .nil) .z<|zf<|zd<|ze<|za<|e_ru (zc 0 ty28 rfl rfl (.t4 .nil))<|e_ru (zc 2 ty28 rfl rfl (.t4 .nil))<|zM rfl rfl (.c rfl (.c rfl .n)) ce68 (zDb (k1:=true) (u1:=w320) (v1:=w421) (q1:=(Big.qabs ((P.getD i 0) / ((P).getD (P.length - 1) (0:Rat))))) (k2:=true) (u2:=su) (v2:=sv) (q2:=(Po.bm P i)) (hl:=by have h1:=hbP i;have h2:=Big.hq_div (P.getD i 0) (y:=P.getD (P.length - 1) 0) hl0;have h3:yd (P.getD (P.length - 1) 0)≤60000000000:=hbP _;have h4:=Po.bm_hq hbP hl0 i;rw [Big.hq_qabs];omega)) (.c (j:=0) rfl (.c (j:=4) rfl .n))<|e_p (zwa rfl rfl)<|zf<|zd<|zC rfl (fun h42=> ?_) (fun h42=> ?_)
    ·
     refine za<|e_ru (zc 0 ty28 rfl rfl (.t4 .nil))<|zj 2 rfl rfl rfl rfl rfl sz28 rfl (.t4 .nil) (.s (.s .z))<|zf<|zN<|zd<|za<|e_p (zK (z:=(((i+1):Nat):Int)) rfl rfl (w64 om))<|e_mv rfl<|zf<|zZ ((i+1),w320,w421) (show (i+1)≤P.length - 1 from by omega) (by show P.length - 1 - (i+1)<P.length - 1 - i;omega) ((.of rfl):SubM _ _) (ho:=((.of [2,2] rfl):PickO _ _ _)) ((.e (j:=0) rfl (by rw [← Po.bm_step];exact congrArg _ (if_pos (Po.lt_sgq.1 h42)).symm) (.of [5,6,7,8] rfl)):SelR _ _ _)
    ·
     refine zB<|zN<|zd<|za<|e_p (zK (z:=(((i+1):Nat):Int)) rfl rfl (w64 om))<|e_mv rfl<|zf<|zZ ((i+1),su,sv) (show (i+1)≤P.length - 1 from by omega) (by show P.length - 1 - (i+1)<P.length - 1 - i;omega) ((.of rfl):SubM _ _) (ho:=((.of [2,2] rfl):PickO _ _ _)) ((.e (j:=4) rfl (by rw [← Po.bm_step];exact congrArg _ (if_neg (fun k=>h42 (Po.lt_sgq.2 k))).symm) (.of [5,6,7,8] rfl)):SelR _ _ _)
   refine zBa (X:=Wd×Wd×Nat) (k':=2) (L':=(lb 14 4095)) (fun (u7_1,u7_2,u11_1)=>([(7,.pointer (some ⟨u11_1,0,none⟩)),(36,.int .i64 0),(35,.agg (cw [u7_1,u7_2]).toArray),(22,.int .i64 ((i:Nat):Int)),(21,.int .i64 (((P.length - 1):Nat):Int)),(20,.slice p92 (P.length - 1) c93),(4,.pointer (some ⟨b7,0,none⟩)),(0,.slice p92 ((P).length) c93),(3,.int .i64 0),(2,.pointer (some ⟨b1,0,none⟩))],[boxA u11_1 28 (cw [wz,wz])],[boxA b13 28 (cw [w11,w12]),boxA b7 28 (cw [su,sv]),boxA b1 28 (cw [wz,wz])],[qF true u7_1 u7_2 ((P.getD i 0) / ((P).getD (P.length - 1) (0:Rat))),qF true w18 w19 ((P).getD (P.length - 1) (0:Rat)),qF true w11 w12 (P.getD i 0),qF true su sv (Po.bm P i),slF rQ p92 c93 ((P).take (P.length - 1)),qF true w35 w46 ((0:Int):Rat),slF rQ p92 c93 P,slF rE p1 c1 l1])) ?_ (fun hD1=> ?_)
   ·
    rintro ⟨u7_1,u7_2,u11_1⟩
    dsimp only [cw]
    refine zAb 12 kr ?_
    ·
     refine zv kr rfl rfl rfl rfl rfl sz28 rfl (.t4 .nil)<|e_pv 13 rfl rfl (zb rfl) ?_
     exact zda (hD0 (u7_1,u7_2,u11_1)) kr ((.of rfl):SubM _ _) .rfl .rfl ((.of [0,1,2,3,4,5,6,7] rfl):SelR _ _ _)
   refine zBa (X:=Wd×Wd) (k':=3) (L':=(lb 14 2047)) (fun (u7_1,u7_2)=>([(36,.int .i64 0),(35,.agg (cw [u7_1,u7_2]).toArray),(22,.int .i64 ((i:Nat):Int)),(21,.int .i64 (((P.length - 1):Nat):Int)),(20,.slice p92 (P.length - 1) c93),(4,.pointer (some ⟨b7,0,none⟩)),(0,.slice p92 ((P).length) c93),(3,.int .i64 0),(2,.pointer (some ⟨b1,0,none⟩))],[],[boxA b13 28 (cw [w11,w12]),boxA b7 28 (cw [su,sv]),boxA b1 28 (cw [wz,wz])],[qF true u7_1 u7_2 ((P.getD i 0) / ((P).getD (P.length - 1) (0:Rat))),qF true w18 w19 ((P).getD (P.length - 1) (0:Rat)),qF true w11 w12 (P.getD i 0),qF true su sv (Po.bm P i),slF rQ p92 c93 ((P).take (P.length - 1)),qF true w35 w46 ((0:Int):Rat),slF rQ p92 c93 P,slF rE p1 c1 l1])) ?_ (fun hD2=> ?_)
   ·
    rintro ⟨u7_1,u7_2⟩
    dsimp only [cw]
    refine zAb 11 kr ?_
    ·
     refine zOa rfl rfl rfl rfl (zr zr28 rfl) (fun u11_1 _=> ?_)
     exact zda (hD1 (u7_1,u7_2,u11_1)) kr ((.of rfl):SubM _ _) .rfl .rfl ((.of [0,1,2,3,4,5,6,7] rfl):SelR _ _ _)
   refine zBa (X:=Nat) (k':=6) (L':=(lb 14 2175)) (fun u11_1=>([(7,.pointer (some ⟨u11_1,0,none⟩)),(33,.agg (cw [w18,w19]).toArray),(27,.agg (cw [w11,w12]).toArray),(22,.int .i64 ((i:Nat):Int)),(21,.int .i64 (((P.length - 1):Nat):Int)),(20,.slice p92 (P.length - 1) c93),(4,.pointer (some ⟨b7,0,none⟩)),(0,.slice p92 ((P).length) c93),(3,.int .i64 0),(2,.pointer (some ⟨b1,0,none⟩))],[boxA u11_1 28 (cw [wz,wz])],[boxA b13 28 (cw [w11,w12]),boxA b7 28 (cw [su,sv]),boxA b1 28 (cw [wz,wz])],[qF true w18 w19 ((P).getD (P.length - 1) (0:Rat)),qF true w11 w12 (P.getD i 0),qF true su sv (Po.bm P i),slF rQ p92 c93 ((P).take (P.length - 1)),qF true w35 w46 ((0:Int):Rat),slF rQ p92 c93 P,slF rE p1 c1 l1])) ?_ (fun hD3=> ?_)
   ·
    rintro u11_1
    dsimp only [cw]
    refine zAb 7 kr ?_
    ·
     refine zu rfl rfl rfl rfl (.c rfl (.c rfl .n)) ce60 (zLa (k1:=true) (u1:=w11) (v1:=w12) (q1:=(P.getD i 0)) (k2:=true) (u2:=w18) (v2:=w19) (q2:=((P).getD (P.length - 1) (0:Rat))) (hl:=by have h1:=hbP i;have h2:yd (P.getD (P.length - 1) 0)≤60000000000:=hbP _;omega) (hy:=by exact hl0)) (.c (j:=1) rfl (.c (j:=0) rfl .n)) ?_
     rintro ⟨u7_1,u7_2⟩ -
     dsimp only [aq,nq,cq]
     refine e_dm 8 rfl rfl rfl<|e_pv 9 rfl rfl (zm rfl rfl)<|e_pv 10 rfl rfl (zm rfl rfl) ?_
     exact zda (hD1 (u7_1,u7_2,u11_1)) kr ((.of rfl):SubM _ _) .rfl .rfl ((.of [0,1,2,3,4,5,6,7] rfl):SelR _ _ _)
   refine zcd 7 11 kr ?_ ?_
   ·
    refine zu rfl rfl rfl rfl (.c rfl (.c rfl .n)) ce60 (zLa (k1:=true) (u1:=w11) (v1:=w12) (q1:=(P.getD i 0)) (k2:=true) (u2:=w18) (v2:=w19) (q2:=((P).getD (P.length - 1) (0:Rat))) (hl:=by have h1:=hbP i;have h2:yd (P.getD (P.length - 1) 0)≤60000000000:=hbP _;omega) (hy:=by exact hl0)) (.c (j:=1) rfl (.c (j:=0) rfl .n)) ?_
    rintro ⟨u7_1,u7_2⟩ -
    dsimp only [aq,nq,cq]
    refine e_dm 8 rfl rfl rfl<|e_pv 9 rfl rfl (zm rfl rfl)<|e_pv 10 rfl rfl (zm rfl rfl) ?_
    exact zda (hD2 (u7_1,u7_2)) kr ((.of rfl):SubM _ _) .rfl .rfl ((.of [0,1,2,3,4,5,6,7] rfl):SelR _ _ _)
   ·
    refine zOa rfl rfl rfl rfl (zr zr28 rfl) (fun u11_1 _=> ?_)
    exact zda (hD3 u11_1) kr ((.of rfl):SubM _ _) .rfl .rfl ((.of [0,1,2,3,4,5,6] rfl):SelR _ _ _)
  ·
   refine zea<|zi<|zi<|zw<|zd<|ze<|zpa (.c (i:=1) rfl (.c (i:=0) rfl .n))<|zU (OW:=[boxA b1 28 (cw [wz,wz])]) (O:=[boxA b7 28 (cw [su,sv])]) 3 mixed (.then .ret) kr<|e_uw 0 rfl rfl (zc 1 ty28 rfl rfl (.t4 .nil))<|e_one 1 (zu rfl rfl rfl rfl (.c rfl .n) ce59 (zhb (z:=1) (hz:=by first|omega|rfl|assumption|decide)) (.n) ?_)
   rintro ⟨w322,w423⟩ -
   dsimp only [aq,nq,cq]
   refine e_one 2 (zu rfl rfl rfl rfl (.c rfl (.c rfl .n)) ce47 (zGb (k1:=true) (u1:=su) (v1:=sv) (q1:=(Po.bm P i)) (k2:=true) (u2:=w322) (v2:=w423) (q2:=((1:Int):Rat)) (hl:=by have h4:=Po.bm_hq hbP hl0 i;have h5:yd ((1:Int):Rat)=1:=dd;omega)) (.c (j:=1) rfl (.c (j:=0) rfl .n)) ?_)
   rintro ⟨w324,w425⟩ -
   dsimp only [aq,nq,cq]
   refine e_one 3 (zv kr rfl rfl rfl rfl rfl sz28 rfl (.t4 .nil) ?_)
   refine e_pv 4 rfl rfl (zb rfl)<|zT kr<|zd<|zE ?_
   have hi9:i=P.length - 1:=by omega
   exact zxa Tryz.results78 (w324,w425) trivial (zn 0 ty28 rfl rfl (.t4 .nil)) (zp rfl) rfl (ho:=(.n:PickO _ _ _)) ((.e (j:=0) rfl (by rw [hi9];rfl) .n):SelR _ _ _)
theorem zLc {u1:Wd} {v1:Wd} {x1:Rat} {u2:Wd} {v2:Wd} {x2:Rat} (hx1:yd x1≤100000000000) (hx2:yd x2≤100000000000):Con yb 71 [.agg #[u1.b,u1.l,v1.b,v1.l],.agg #[u2.b,u2.l,v2.b,v2.l]] [] [qF true u1 v1 x1,qF true u2 v2 x2] (Y:=Wd×Wd) (fun y=>True) (fun y=> .agg #[y.1.b,y.1.l,y.2.b,y.2.l]) (fun y=>[]) (fun y=>[qF true y.1 y.2 (Po.mid x1 x2)]):=by
 refine zl Tryz.func71 rfl rfl rfl (fun c=> ?_)
 show RunC _ _ _ _ _ [(0,.agg #[u1.b,u1.l,v1.b,v1.l]),(1,.agg #[u2.b,u2.l,v2.b,v2.l])] [] [qF true u1 v1 x1,qF true u2 v2 x2]
 refine ze<|za<|zH rfl rfl (zO rfl rfl) (fun b1=> ?_)
 refine zH rfl rfl (zO rfl rfl) (fun b2=> ?_)
 refine zH rfl rfl (zr zr28 rfl) (fun b3=> ?_)
 refine zf<|zd<|ze<|za<|zk rfl rfl (.c rfl (.c rfl .n)) ce104 (zif (z1:=1) (z2:=2) (hz1:=by first|omega|rfl|assumption|decide) (hz2:=by first|omega|rfl|assumption|decide) (hy:=by first|omega|rfl|assumption|decide)) (.n) ?_
 rintro ⟨w34,w45⟩ -
 dsimp only [aq,nq,cq]
 refine e_mv rfl<|e_p (zm rfl rfl)<|e_p (zm rfl rfl)<|zH rfl rfl (zr zr28 rfl) (fun b6=> ?_)
 refine zj 0 rfl rfl rfl rfl rfl sz28 rfl (.t4 .nil) .z<|e_p (zb rfl)<|zf<|zd<|ze<|zpa (.c (i:=1) rfl (.c (i:=0) rfl (.c (i:=0) rfl (.c (i:=0) rfl .n))))<|zU (OW:=[boxA b3 28 (cw [wz,wz])]) (O:=[boxA b6 28 (cw [w34,w45]),boxA b2 28 (cw [u2,v2]),boxA b1 28 (cw [u1,v1])]) 5 mixed (.then .ret) kr<|e_uw 0 rfl rfl (zc 3 ty28 rfl rfl (.t4 .nil))<|e_uw 1 rfl rfl (zc 2 ty28 rfl rfl (.t4 .nil))<|e_uw 3 rfl rfl (zc 1 ty28 rfl rfl (.t4 .nil))<|e_one 2 (zu rfl rfl rfl rfl (.c rfl (.c rfl .n)) ce47 (zGb (k1:=true) (u1:=u1) (v1:=v1) (q1:=x1) (k2:=true) (u2:=u2) (v2:=v2) (q2:=x2) (hl:=by first|omega|rfl|assumption|decide)) (.c (j:=1) rfl (.c (j:=2) rfl .n)) ?_)
 rintro ⟨w37,w48⟩ -
 dsimp only [aq,nq,cq]
 refine e_one 4 (zu rfl rfl rfl rfl (.c rfl (.c rfl .n)) ce51 (zuc (k1:=true) (u1:=w37) (v1:=w48) (q1:=x1+x2) (k2:=true) (u2:=w34) (v2:=w45) (q2:=Rat.divInt 1 2) (hl:=by have h1:=Big.hq_add x1 x2;have h5:yd (Rat.divInt 1 2)=1:=(by decide +kernel);omega)) (.c (j:=0) rfl (.c (j:=1) rfl .n)) ?_)
 rintro ⟨w39,w410⟩ -
 dsimp only [aq,nq,cq]
 refine e_one 5 (zv kr rfl rfl rfl rfl rfl sz28 rfl (.t4 .nil) ?_)
 refine zT kr<|zd<|zE ?_
 exact zA Tryz.results71 (w39,w410) trivial (zn 0 ty28 rfl rfl (.t4 .nil)) rfl (ho:=(.n:PickO _ _ _)) ((.c (j:=0) rfl .n):SelR _ _ _)
theorem zEe {p1:Option Addr} {n1:Nat} {c1:Nat} {l1:List (Option Rat)} {u1:Wd} {v1:Wd} {x1:Rat} {u2:Wd} {v2:Wd} {x2:Rat} (hn1:l1.length=n1) (hm1:n1≤190) (hok:Po.sok (Po.vals l1)) (hne:(Po.sturm (Po.vals l1)).length≠0) (hlS:(Po.sturm (Po.vals l1)).length≤400) (hx1:yd x1≤100000000000) (hx2:yd x2≤100000000000) (hv1:Po.vok (Po.sturm (Po.vals l1)) x1) (hv2:Po.vok (Po.sturm (Po.vals l1)) x2) (hle:¬x2<x1):Con yb 45 [.slice p1 n1 c1,.agg #[u1.b,u1.l,v1.b,v1.l],.agg #[u2.b,u2.l,v2.b,v2.l]] [] [slF rE p1 c1 l1,qF true u1 v1 x1,qF true u2 v2 x2] (Y:=Unit) (fun y=>True) (fun y=> .tuple #[.int .i64 (Po.bt (Po.sturm (Po.vals l1)) x1 x2),.int .i64 0]) (fun y=>[]) (fun y=>[]):=by
 refine zl Tryz.func45 rfl rfl rfl (fun c=> ?_)
 show RunC _ _ _ _ _ [(0,.slice p1 n1 c1),(1,.agg #[u1.b,u1.l,v1.b,v1.l]),(2,.agg #[u2.b,u2.l,v2.b,v2.l])] [] [slF rE p1 c1 l1,qF true u1 v1 x1,qF true u2 v2 x2]
 refine zQ 0 rfl (fun hL0=> ?_)
 refine ze<|za<|zH rfl rfl (zO rfl rfl) (fun b1=> ?_)
 refine zH rfl rfl (zO rfl rfl) (fun b2=> ?_)
 refine e_p (zb rfl)<|e_p (zb rfl)<|zf<|zd<|ze<|za<|e_mv rfl<|zk rfl rfl (.c rfl .n) ce67 (zfc (p1:=p1) (n1:=n1) (c1:=c1) (l1:=l1) (hn1:=ass) (hm1:=ass) (hok:=ass)) (.c (j:=0) rfl .n) ?_
 rintro ⟨p93,c94⟩ -
 dsimp only [aq,nq,cq]
 refine e_p (zb rfl)<|zf<|zd<|ze<|ze<|za<|e_mv rfl<|e_p (zD yf rfl)<|e_p (zia rfl rfl)<|zf<|zd<|zC rfl (fun h13=> ?_) (fun h13=> ?_)
 ·
  omega
 ·
  refine zB<|zd<|ze<|ze<|za<|e_ru (zc 1 ty28 rfl rfl (.t4 .nil))<|e_ru (zc 0 ty28 rfl rfl (.t4 .nil))<|zM rfl rfl (.c rfl (.c rfl .n)) ce68 (zDb (k1:=true) (u1:=u1) (v1:=v1) (q1:=x1) (k2:=true) (u2:=u2) (v2:=v2) (q2:=x2) (hl:=by first|omega|rfl|assumption|decide)) (.c (j:=2) rfl (.c (j:=3) rfl .n))<|e_p (zwa rfl rfl)<|zf<|zd<|zC rfl (fun h17=> ?_) (fun h17=> ?_)
  ·
   exact absurd (Po.lt_sgq.1 h17) hle
  ·
   refine zB<|zd<|ze<|za<|e_mv rfl<|e_ru (zc 1 ty28 rfl rfl (.t4 .nil))<|e_ru (zc 0 ty28 rfl rfl (.t4 .nil))<|zM rfl rfl (.c rfl (.c rfl (.c rfl .n))) ce70 (zZb (pL:=p93) (nL:=(Po.sturm (Po.vals l1)).length) (cL:=c94) (L:=(Po.sturm (Po.vals l1))) (u1:=u1) (v1:=v1) (x1:=x1) (u2:=u2) (v2:=v2) (x2:=x2) (hnL:=by first|omega|rfl|assumption|decide) (hmL:=ass) (hx1:=ass) (hx2:=ass) (hv1:=ass) (hv2:=ass)) (.c (j:=0) rfl (.c (j:=2) rfl (.c (j:=3) rfl .n)))<|e_p (zb rfl)<|e_p (zb rfl)<|zf<|zd<|zE ?_
   exact zxa Tryz.results45 () trivial (zp rfl) (zp rfl) rfl (ho:=(.n:PickO _ _ _)) (.n:SelR _ _ _)
theorem zoc {p1:Option Addr} {n1:Nat} {c1:Nat} {l1:List Int} (hn1:l1.length=n1) (hm1:n1≤1000):Con yb 40 [.slice p1 n1 c1] [] [slF (rI .i64) p1 c1 l1] (Y:=(Option Addr)×Nat) (fun y=>True) (fun y=> .slice (y.1) ((Po.ofL l1).length) (y.2)) (fun y=>[]) (fun y=>[slF rQ (y.1) (y.2) (Po.ofL l1)]):=by
 refine zl Tryz.func40 rfl rfl rfl (fun c=> ?_)
 show RunC _ _ _ _ _ [(0,.slice p1 n1 c1)] [] [slF (rI .i64) p1 c1 l1]
 refine zQ 0 rfl (fun hL0=> ?_)
 refine zHa 0 rfl (fun hE0=> ?_)
 refine ze<|za<|e_p (zb rfl)<|zf<|zd<|ze<|za<|e_p (zb rfl)<|zf<|zd<|ze<|ze<|zrc 28 rQ<|za<|e_mv rfl<|e_p (zD ye rfl)<|e_mv rfl<|zf<|zd<|zy<|zfa (X:=Nat×(Option Addr)×Nat×(List Rat)) (fun x:Nat×(Option Addr)×Nat×(List Rat)=>x.1≤n1∧x.2.2.2=Po.ofL (l1.take x.1)) (fun x=>[(3,.slice (x.2.1) (x.2.2.2.length) (x.2.2.1)),(8,.int .i64 ((x.1:Nat):Int)),(7,.int .i64 ((n1:Nat):Int)),(6,.slice p1 n1 c1),(2,.slice none 0 0)]) (fun x=>[rowA 28 rQ (x.2.1) (x.2.2.1) (x.2.2.2)]) (fun x=>[slF (rI .i64) p1 c1 l1]) (fun x:Nat×(Option Addr)×Nat×(List Rat)=>n1 - x.1) (0,none,0,([]:List Rat)) (show 0≤n1∧([]:List Rat)=Po.ofL (l1.take 0) from by exact ⟨Nat.zero_le _,rfl⟩) ((.e rfl (by first|rfl|(congr 1;omega)|simp_all) (.e rfl (by first|rfl|(congr 1;omega)|simp_all) (.of rfl))):SubM _ _) (ho:=((.e (i:=0) rfl (by first|rfl|(congr 1;omega)|simp_all) .n):PickO _ _ _)) ((.c (j:=0) rfl .n):SelR _ _ _) ?_
 rintro ⟨i,pR,cR,A⟩ hI
 replace hI:i≤n1∧A=Po.ofL (l1.take i):=hI
 try dsimp only
 obtain ⟨hi,hA⟩:=hI
 have hAl:A.length=i:=by rw [hA];unfold Po.ofL;rw [List.length_map,List.length_take];omega
 refine ze<|za<|e_p (zba rfl rfl)<|zf<|zd<|ze<|zC rfl (fun h9=> ?_) (fun h9=> ?_)
 ·
  refine zB<|zd<|ze<|zy<|ze<|za<|zR (x0:=(l1.getD i 0)) 0 i rfl ye sz3 rfl rfl rfl (by first|rfl|assumption|(simp;done)|omega) rfl rfl (gD (d:=0) om) (fun b1 o2 hok3=> ?_)
  replace hok3:=zua.1 hok3
  refine e_ru (zo (j:=0) 0 ty3 rfl rfl rfl rfl)<|e_p (zb rfl)<|zf<|zd<|za<|e_mv rfl<|e_mv rfl<|zk rfl rfl (.c rfl .n) ce42 (zkb (z:=(l1.getD i 0)) (hz:=cbo)) (.n) ?_
  rintro ⟨w34,w45⟩ -
  dsimp only [aq,nq,cq]
  refine zsa rfl rfl (zCa (r:=rQ) (k:=1) ya inf28 rfl dd dd dd (.c (x:=(((l1.getD i 0):Int):Rat)) (cs:=[w34.b,w34.l,w45.b,w45.l]) (w34,w45) rfl rfl rfl (fun g hr=>Holds.get 0 rfl hr) .n)) (fun b6 _=> ?_)
  refine zV 0 rfl .z<|zza 1 rfl rfl rfl (zma 0 rfl ya inf28 dd rfl rfl (by first|rfl|assumption|(simp;done)|omega) rfl (by first|rfl|assumption|(simp;done)|omega) om om) (fun _=>(.s .z)) ?_
  rintro ⟨p7,c8⟩ -
  dsimp only [aq,nq,cq]
  refine e_p (zb rfl)<|zf<|zN<|zd<|za<|e_p (zK (z:=(((i+1):Nat):Int)) rfl rfl (w64 om))<|e_mv rfl<|zf<|zZ ((i+1),p7,c8,(A++([(((l1.getD i 0):Int):Rat)]))) (show (i+1)≤n1∧(A++([(((l1.getD i 0):Int):Rat)]))=Po.ofL (l1.take (i+1)) from by exact ⟨by omega,by rw [hA];exact Po.ofL_take om⟩) (by show n1 - (i+1)<n1 - i;omega) ((.e rfl (by simp) (.of rfl)):SubM _ _) (ho:=((.c (i:=1) rfl .n):PickO _ _ _)) ((.c (j:=3) rfl .n):SelR _ _ _)
 ·
  refine zea<|zi<|zi<|zw<|zd<|ze<|za<|e_mv rfl<|e_p (zb rfl)<|zf<|zd<|zE<|zYa 0 rfl .z ?_
  have hv9:A=Po.ofL l1:=by rw [hA,List.take_of_length_le om]
  exact zA Tryz.results40 (pR,cR) trivial (zp rfl) (by rw [← hv9]) (ho:=(.n:PickO _ _ _)) ((.e (j:=0) rfl (by rw [← hv9]) .n):SelR _ _ _)
theorem zpc {u1:Wd} {u2:Wd} {u3:Wd} {u4:Wd} {v1:Wd} {v2:Wd} {v3:Wd} {v4:Wd} {q1:Rat} {q2:Rat} {q3:Rat} {q4:Rat} (hl1:yd q1+yd q3+1≤1099511627776) (hl2:yd q2+yd q4+1≤1099511627776):Con yb 39 [.agg #[u1.b,u1.l,v1.b,v1.l,u2.b,u2.l,v2.b,v2.l],.agg #[u3.b,u3.l,v3.b,v3.l,u4.b,u4.l,v4.b,v4.l]] [] [qF true u1 v1 q1,qF true u2 v2 q2,qF true u3 v3 q3,qF true u4 v4 q4] (Y:=Unit) (fun y=>True) (fun y=> .bool (decide (q1=q3∧q2=q4))) (fun y=>[]) (fun y=>[]):=by
 refine zl Tryz.func39 rfl rfl rfl (fun c=> ?_)
 show RunC _ _ _ _ _ [(0,.agg #[u1.b,u1.l,v1.b,v1.l,u2.b,u2.l,v2.b,v2.l]),(1,.agg #[u3.b,u3.l,v3.b,v3.l,u4.b,u4.l,v4.b,v4.l])] [] [qF true u1 v1 q1,qF true u2 v2 q2,qF true u3 v3 q3,qF true u4 v4 q4]
 refine ze<|za<|zH rfl rfl (zO rfl rfl) (fun b1=> ?_)
 refine zH rfl rfl (zO rfl rfl) (fun b2=> ?_)
 refine e_p (zb rfl)<|zf<|zd<|zWa (X:=Unit) (fun x=>True) (fun x=>[(4,.bool (decide ((q1=q3)∧(q2=q4))))]) (fun x=>[boxA b2 48 (cw [u3,v3,u4,v4]),boxA b1 48 (cw [u1,v1,u2,v2])]) (fun x=>[qF true u1 v1 q1,qF true u2 v2 q2,qF true u3 v3 q3,qF true u4 v4 q4]) ?_ ?_
 ·
  refine za<|e_p (zg yg rfl sz28 rfl rfl)<|e_ru (zc 1 ty28 rfl rfl (.t4 .nil))<|e_p (zg yg rfl sz28 rfl rfl)<|e_ru (zc 0 ty28 rfl rfl (.t4 .nil))<|zM rfl rfl (.c rfl (.c rfl .n)) ce22 (zdb (u1:=u1) (v1:=v1) (q1:=q1) (u2:=u3) (v2:=v3) (q2:=q3) (hl:=ass)) (.c (j:=0) rfl (.c (j:=2) rfl .n))<|zga rfl rfl (zha rfl) (fun h3=> ?_) (fun h3=> ?_)
  ·
   refine e_p (zg yg rfl sz28 rfl rfl)<|e_ru (zc 1 ty28 rfl rfl (.s4 (.t4 .nil)))<|e_p (zg yg rfl sz28 rfl rfl)<|e_ru (zc 0 ty28 rfl rfl (.s4 (.t4 .nil)))<|zM rfl rfl (.c rfl (.c rfl .n)) ce22 (zdb (u1:=u2) (v1:=v2) (q1:=q2) (u2:=u4) (v2:=v4) (q2:=q4) (hl:=ass)) (.c (j:=1) rfl (.c (j:=3) rfl .n))<|e_p (zJ rfl rfl)<|e_p (zb rfl)<|zf ?_
   exact zna () (show True from by first|trivial|omega|simp_all) ((.e rfl (congrArg Value.bool cbu) .n):SubM _ _) (ho:=((.of [0,0] rfl):PickO _ _ _)) ((.of [0,1,2,3] rfl):SelR _ _ _)
  ·
   refine e_no<|e_no<|e_no<|e_no<|e_no<|e_p (zJ rfl rfl)<|e_p (zb rfl)<|zf ?_
   exact zna () (show True from by first|trivial|omega|simp_all) ((.e rfl (congrArg Value.bool cbu) .n):SubM _ _) (ho:=((.of [0,0] rfl):PickO _ _ _)) ((.of [0,1,2,3] rfl):SelR _ _ _)
 ·
  rintro ⟨⟩ -
  try dsimp only [cw]
  refine zE ?_
  exact zA Tryz.results39 () trivial (zp rfl) rfl (ho:=(.n:PickO _ _ _)) (.n:SelR _ _ _)
end Go.Proofs.YtbiaimgafknkmaaGreat.Sp
namespace Go.Proofs.YtbiaimgafknkmaaGreat.Sp
open Go
set_option linter.unusedVariables false
set_option maxRecDepth 100000
set_option maxHeartbeats 8000000
theorem zMf {pL:Option Addr} {nL:Nat} {cL:Nat} {L:List (List Rat)} {bl:Nat} {bo:Nat} {bd:Nat} {n:Nat} {A:List (Rat×Rat)} {u1:Wd} {v1:Wd} {x1:Rat} {u2:Wd} {v2:Wd} {x2:Rat} (hnL:L.length=nL) (hmL:nL≤400) (hA:A.length+(Po.iso L (n+1) x1 x2).length≤1000000) (hk:Po.isk L (n+1) x1 x2) (ih:∀(A:List (Rat×Rat)) (u1 v1:Wd) (x1:Rat) (u2 v2:Wd) (x2:Rat) (hA:A.length+(Po.iso L n x1 x2).length≤1000000) (hk:Po.isk L n x1 x2),Con yb 79 [.agg #[u1.b,u1.l,v1.b,v1.l],.agg #[u2.b,u2.l,v2.b,v2.l],.pointer (some ⟨bl,0,none⟩),.pointer (some ⟨bo,0,none⟩),.pointer (some ⟨bd,0,none⟩)] [orA bo 60 48 rR A] [atF bl 0 [.slice pL nL cL],atF bd 0 [.func (.func 79) #[] #[.pointer (some ⟨bl,0,none⟩),.pointer (some ⟨bo,0,none⟩),.pointer (some ⟨bd,0,none⟩)]],slF (rS rQ) pL cL L,qF true u1 v1 x1,qF true u2 v2 x2] (Y:=Unit) (fun y=>True) (fun y=> .tuple #[]) (fun y=>[orA bo 60 48 rR (A++(Po.iso L n x1 x2))]) (fun y=>[])):Con yb 79 [.agg #[u1.b,u1.l,v1.b,v1.l],.agg #[u2.b,u2.l,v2.b,v2.l],.pointer (some ⟨bl,0,none⟩),.pointer (some ⟨bo,0,none⟩),.pointer (some ⟨bd,0,none⟩)] [orA bo 60 48 rR A] [atF bl 0 [.slice pL nL cL],atF bd 0 [.func (.func 79) #[] #[.pointer (some ⟨bl,0,none⟩),.pointer (some ⟨bo,0,none⟩),.pointer (some ⟨bd,0,none⟩)]],slF (rS rQ) pL cL L,qF true u1 v1 x1,qF true u2 v2 x2] (Y:=Unit) (fun y=>True) (fun y=> .tuple #[]) (fun y=>[orA bo 60 48 rR (A++(Po.iso L (n+1) x1 x2))]) (fun y=>[]):=by
 refine zl Tryz.func79 rfl rfl rfl (fun c=> ?_)
 show RunC _ _ _ _ _ [(0,.agg #[u1.b,u1.l,v1.b,v1.l]),(1,.agg #[u2.b,u2.l,v2.b,v2.l]),(2,.pointer (some ⟨bl,0,none⟩)),(3,.pointer (some ⟨bo,0,none⟩)),(4,.pointer (some ⟨bd,0,none⟩))] [orA bo 60 48 rR A] [atF bl 0 [.slice pL nL cL],atF bd 0 [.func (.func 79) #[] #[.pointer (some ⟨bl,0,none⟩),.pointer (some ⟨bo,0,none⟩),.pointer (some ⟨bd,0,none⟩)]],slF (rS rQ) pL cL L,qF true u1 v1 x1,qF true u2 v2 x2]
 refine zQ 2 rfl (fun hL2=> ?_)
 obtain ⟨⟨hx1,hx2,hv1,hv2⟩,hr⟩:=hk
 refine ze<|za<|zH rfl rfl (zO rfl rfl) (fun b1=> ?_)
 refine zH rfl rfl (zO rfl rfl) (fun b2=> ?_)
 refine zf<|zd<|ze<|za<|e_ru (zo (j:=0) 0 ty76 rfl rfl rfl rfl)<|e_ru (zc 1 ty28 rfl rfl (.t4 .nil))<|e_ru (zc 0 ty28 rfl rfl (.t4 .nil))<|zM rfl rfl (.c rfl (.c rfl (.c rfl .n))) ce70 (zZb (pL:=pL) (nL:=nL) (cL:=cL) (L:=L) (u1:=u1) (v1:=v1) (x1:=x1) (u2:=u2) (v2:=v2) (x2:=x2) (hnL:=ass) (hmL:=ass) (hx1:=by first|omega|rfl|assumption|decide) (hx2:=by first|omega|rfl|assumption|decide) (hv1:=by first|omega|rfl|assumption|decide) (hv2:=by first|omega|rfl|assumption|decide)) (.c (j:=2) rfl (.c (j:=3) rfl (.c (j:=4) rfl .n)))<|zf<|zd<|zy<|ze<|za<|e_p (zia rfl rfl)<|e_p (zb rfl)<|zf<|zd<|zC rfl (fun h23=> ?_) (fun h23=> ?_)
 ·
  have hmo:=Po.iso_none (n:=n+1) h23
  refine zB<|zN<|zUf<|zNe (fun w mm=>mm.orCast (l2:=(A++Po.iso L (n+1) x1 x2)) 2 rfl (by rw [hmo,List.append_nil])) ?_
  dsimp only [List.eraseIdx]
  exact zHe Tryz.results79 () trivial rfl (ho:=((.c (i:=0) rfl .n):PickO _ _ _)) (.n:SelR _ _ _)
 ·
  refine ze<|za<|e_p (zia rfl rfl)<|e_p (zb rfl)<|zf<|zd<|zC rfl (fun h25=> ?_) (fun h25=> ?_)
  ·
   have hmo:=Po.iso_one (n:=n) h25
   have hml:(Po.iso L (n+1) x1 x2).length=1:=by rw [hmo];rfl
   refine zOf (fun w mm=>mm.orOpen 2 rfl) ?_
   rintro ⟨p3,c4⟩ -
   dsimp only [List.eraseIdx]
   refine za<|e_ru (zh 0 ty60 rfl rfl rfl)<|e_ru (zc 3 ty28 rfl rfl (.t4 .nil))<|e_ru (zc 2 ty28 rfl rfl (.t4 .nil))<|e_p (zG zr48 rfl yg (.c sz28 (.c sz28 .n)) (.c rfl (.c rfl .n)) (.c rfl rfl rfl (.t4 .nil) (.c rfl rfl rfl (.s4 (.t4 .nil)) .n)))<|zsa rfl rfl (zCa (r:=rR) (k:=1) yh inf48 rfl dd dd dd (.c (x:=(x1,x2)) (cs:=[u1.b,u1.l,v1.b,v1.l,u2.b,u2.l,v2.b,v2.l]) (u1,v1,u2,v2) rfl rfl rfl (fun g hr=>⟨Holds.get 3 rfl hr,Holds.get 4 rfl hr⟩) .n)) (fun b6 _=> ?_)
   refine zV 0 rfl .z<|zza 2 rfl rfl rfl (zma 0 rfl yh inf48 dd rfl rfl (by first|rfl|assumption|(simp;done)|omega) rfl (by first|rfl|assumption|(simp;done)|omega) om om) (fun _=>(.s (.s .z))) ?_
   rintro ⟨p7,c8⟩ -
   dsimp only [aq,nq,cq]
   refine zj 1 rfl rfl rfl rfl rfl sz60 rfl (.take .nil) (.s .z)<|zf<|zN<|zUf<|zNe (fun w mm=>mm.orClose 1 1 rfl rfl (by simp)) ?_
   dsimp only [List.eraseIdx]
   refine zNe (fun w mm=>mm.orCast (l2:=(A++Po.iso L (n+1) x1 x2)) 0 rfl (by rw [hmo])) ?_
   dsimp only [List.eraseIdx]
   exact zHe Tryz.results79 () trivial rfl (ho:=((.c (i:=0) rfl .n):PickO _ _ _)) (.n:SelR _ _ _)
  ·
   obtain ⟨hr1,hr2⟩:=hr h23 h25
   have hmo:=Po.iso_more (n:=n) h23 h25
   have hml:(Po.iso L (n+1) x1 x2).length=(Po.iso L n x1 (Po.mid x1 x2)).length+(Po.iso L n (Po.mid x1 x2) x2).length:=by rw [hmo,List.length_append]
   refine ze<|za<|e_ru (zc 1 ty28 rfl rfl (.t4 .nil))<|e_ru (zc 0 ty28 rfl rfl (.t4 .nil))<|zk rfl rfl (.c rfl (.c rfl .n)) ce71 (zLc (u1:=u1) (v1:=v1) (x1:=x1) (u2:=u2) (v2:=v2) (x2:=x2) (hx1:=by first|omega|rfl|assumption|decide) (hx2:=by first|omega|rfl|assumption|decide)) (.c (j:=3) rfl (.c (j:=4) rfl .n)) ?_
   rintro ⟨w39,w410⟩ -
   dsimp only [aq,nq,cq]
   refine zH rfl rfl (zr zr28 rfl) (fun b11=> ?_)
   refine zj 0 rfl rfl rfl rfl rfl sz28 rfl (.t4 .nil) .z<|zf<|zd<|ze<|za<|e_ru (zo (j:=0) 2 ty82 rfl rfl rfl rfl)<|e_ru (zc 2 ty28 rfl rfl (.t4 .nil))<|e_ru (zc 0 ty28 rfl rfl (.t4 .nil))<|l_perm (zW (i:=3) rfl)<|zNd (A:=[orA bo 60 48 rR A]) (F:=[boxA b11 28 [w39.b,w39.l,w410.b,w410.l],boxA b2 28 [u2.b,u2.l,v2.b,v2.l],boxA b1 28 [u1.b,u1.l,v1.b,v1.l]]) (first:=[]) (cap:=[.pointer (some ⟨bl,0,none⟩),.pointer (some ⟨bo,0,none⟩),.pointer (some ⟨bd,0,none⟩)]) rfl rfl rfl (.c rfl (.c rfl .n)) ce79 (ih (A:=A) (u1:=u1) (v1:=v1) (x1:=x1) (u2:=w39) (v2:=w410) (x2:=(Po.mid x1 x2)) (hA:=by first|omega|rfl|assumption|decide) (hk:=by first|omega|rfl|assumption|decide)) (.c (j:=1) rfl (.c (j:=2) rfl (.c (j:=3) rfl (.c (j:=4) rfl (.c (j:=0) rfl .n))))) ?_
   rintro ⟨⟩ -
   dsimp only [aq,nq,cq]
   refine zf<|zd<|za<|e_ru (zo (j:=0) 2 ty82 rfl rfl rfl rfl)<|e_ru (zc 1 ty28 rfl rfl (.t4 .nil))<|e_ru (zc 2 ty28 rfl rfl (.t4 .nil))<|zNd (A:=[orA bo 60 48 rR (A++(Po.iso L n x1 (Po.mid x1 x2)))]) (F:=[boxA b11 28 [w39.b,w39.l,w410.b,w410.l],boxA b2 28 [u2.b,u2.l,v2.b,v2.l],boxA b1 28 [u1.b,u1.l,v1.b,v1.l]]) (first:=[]) (cap:=[.pointer (some ⟨bl,0,none⟩),.pointer (some ⟨bo,0,none⟩),.pointer (some ⟨bd,0,none⟩)]) rfl rfl rfl (.c rfl (.c rfl .n)) ce79 (ih (A:=(A++(Po.iso L n x1 (Po.mid x1 x2)))) (u1:=w39) (v1:=w410) (x1:=(Po.mid x1 x2)) (u2:=u2) (v2:=v2) (x2:=x2) (hA:=by rw [List.length_append];omega) (hk:=by first|omega|rfl|assumption|decide)) (.c (j:=1) rfl (.c (j:=2) rfl (.c (j:=3) rfl (.c (j:=0) rfl (.c (j:=5) rfl .n))))) ?_
   rintro ⟨⟩ -
   dsimp only [aq,nq,cq]
   refine zf<|zN<|zUf<|zNe (fun w mm=>mm.orCast (l2:=(A++Po.iso L (n+1) x1 x2)) 0 rfl (by rw [hmo,List.append_assoc])) ?_
   dsimp only [List.eraseIdx]
   exact zHe Tryz.results79 () trivial rfl (ho:=((.c (i:=0) rfl .n):PickO _ _ _)) (.n:SelR _ _ _)
theorem zgg {pL:Option Addr} {nL:Nat} {cL:Nat} {L:List (List Rat)} {bl:Nat} {bo:Nat} {bd:Nat} {n:Nat} {A:List (Rat×Rat)} {u1:Wd} {v1:Wd} {x1:Rat} {u2:Wd} {v2:Wd} {x2:Rat} (hnL:L.length=nL) (hmL:nL≤400) (hA:A.length+(Po.iso L n x1 x2).length≤1000000) (hk:Po.isk L n x1 x2):Con yb 79 [.agg #[u1.b,u1.l,v1.b,v1.l],.agg #[u2.b,u2.l,v2.b,v2.l],.pointer (some ⟨bl,0,none⟩),.pointer (some ⟨bo,0,none⟩),.pointer (some ⟨bd,0,none⟩)] [orA bo 60 48 (rR) (A)] [atF bl (0) [.slice (pL) (nL) (cL)],atF bd (0) [.func (.func 79) #[] #[.pointer (some ⟨bl,0,none⟩),.pointer (some ⟨bo,0,none⟩),.pointer (some ⟨bd,0,none⟩)]],slF (rS (rQ)) (pL) (cL) (L),qF true u1 v1 (x1),qF true u2 v2 (x2)] (Y:=Unit) (fun y=>True) (fun y=> .tuple #[]) (fun y=>[orA bo 60 48 (rR) ((A++(Po.iso L n x1 x2)))]) (fun y=>[]):=by
  induction n generalizing A u1 v1 x1 u2 v2 x2 with
  |zero=>exact hk.elim
  |succ n ih=>exact zMf hnL hmL hA hk (fun A u1 v1 x1 u2 v2 x2 hA hk=>by apply ih <;> assumption)
theorem zqc {p1:Option Addr} {n1:Nat} {c1:Nat} {l1:List (Option Rat)} {n:Nat} (hn1:l1.length=n1) (hm1:n1≤190) (hok:Po.sok (Po.vals l1)) (hb:Po.bd 40000000000 (Po.vals l1)) (hne:(Po.sturm (Po.vals l1)).length≠0) (hne2:(Po.cl (Po.vals l1)).length≠0) (hlS:(Po.sturm (Po.vals l1)).length≤400) (hA:(Po.iso (Po.sturm (Po.vals l1)) n (-(Po.bound (Po.cl (Po.vals l1)))) (Po.bound (Po.cl (Po.vals l1)))).length≤1000000) (hk:Po.isk (Po.sturm (Po.vals l1)) n (-(Po.bound (Po.cl (Po.vals l1)))) (Po.bound (Po.cl (Po.vals l1)))):Con yb 43 [.slice p1 n1 c1] [] [slF rE p1 c1 l1] (Y:=(Option Addr)×Nat) (fun y=>True) (fun y=> .tuple #[.slice (y.1) ((Po.iso (Po.sturm (Po.vals l1)) n (-(Po.bound (Po.cl (Po.vals l1)))) (Po.bound (Po.cl (Po.vals l1)))).length) (y.2),.int .i64 0]) (fun y=>[]) (fun y=>[slF rR (y.1) (y.2) (Po.iso (Po.sturm (Po.vals l1)) n (-(Po.bound (Po.cl (Po.vals l1)))) (Po.bound (Po.cl (Po.vals l1))))]):=by
 refine zl Tryz.func43 rfl rfl rfl (fun c=> ?_)
 show RunC _ _ _ _ _ [(0,.slice p1 n1 c1)] [] [slF rE p1 c1 l1]
 refine zQ 0 rfl (fun hL0=> ?_)
 refine ze<|za<|e_p (zb rfl)<|e_p (zb rfl)<|zf<|zd<|ze<|za<|e_mv rfl<|zk rfl rfl (.c rfl .n) ce67 (zfc (p1:=p1) (n1:=n1) (c1:=c1) (l1:=l1) (hn1:=ass) (hm1:=ass) (hok:=ass)) (.c (j:=0) rfl .n) ?_
 rintro ⟨p91,c92⟩ -
 dsimp only [aq,nq,cq]
 refine zH rfl rfl (zr zr76 rfl) (fun b3=> ?_)
 refine zj 0 rfl rfl rfl rfl rfl sz76 rfl (.take .nil) .z<|zf<|zd<|ze<|ze<|za<|e_ru (zh 0 ty76 rfl rfl rfl)<|e_p (zD yf rfl)<|e_p (zia rfl rfl)<|zf<|zd<|zC rfl (fun h13=> ?_) (fun h13=> ?_)
 ·
  omega
 ·
  refine zB<|zd<|ze<|za<|e_mv rfl<|zk rfl rfl (.c rfl .n) ce78 (zDe (p1:=p1) (n1:=n1) (c1:=c1) (l1:=l1) (hn1:=ass) (hm1:=ass) (hb:=by exact Po.bd_mono hb dd) (hne:=ass)) (.c (j:=1) rfl .n) ?_
  rintro ⟨w34,w45⟩ -
  dsimp only [aq,nq,cq]
  refine e_mv rfl<|e_p (zm rfl rfl)<|e_p (zm rfl rfl)<|zH rfl rfl (zr zr28 rfl) (fun b6=> ?_)
  refine zj 0 rfl rfl rfl rfl rfl sz28 rfl (.t4 .nil) .z<|e_p (zb rfl)<|zf<|zd<|ze<|za<|zH rfl rfl (zr zr60 rfl) (fun b7=> ?_)
  refine zf<|zd<|ze<|za<|zH rfl rfl (zr zr82 rfl) (fun b8=> ?_)
  refine zf<|zd<|ze<|za<|e_p (zKb .n (.c rfl (.c rfl (.c rfl .n))))<|zj 0 rfl rfl rfl rfl rfl sz82 rfl (.take .nil) .z<|zf<|zd<|ze<|zAc 3 rfl (.s (.s (.s .z)))<|zAc 0 rfl .z<|zrc 48 rR<|c_mem (fun w mm=>mm.orClose 2 0 rfl rfl (by rfl)) ?_
  dsimp only [List.eraseIdx]
  refine zU (OW:=[orA b7 60 48 rR ([])]) (O:=[emA,boxA b6 28 (cw [w34,w45]),emA]) 4 mixed (.then .ret) kr<|e_u 0 rfl rfl (zo (j:=0) 0 ty82 rfl rfl rfl rfl)<|e_uw 1 rfl rfl (zc 2 ty28 rfl rfl (.t4 .nil))<|e_uw 3 rfl rfl (zc 2 ty28 rfl rfl (.t4 .nil))<|e_one 2 (zu rfl rfl rfl rfl (.c rfl .n) ce80 (zle (k1:=true) (u1:=w34) (v1:=w45) (q1:=(Po.bound (Po.cl (Po.vals l1)))) (hl:=by exact Nat.le_trans (Po.bound_hq (Po.bd_cl hb) (Po.lead_ne (Po.cl_cl _) (fun e=>hne2 (by rw [e];rfl)))) dd)) (.c (j:=2) rfl .n) ?_)
  rintro ⟨w39,w410⟩ -
  dsimp only [aq,nq,cq]
  refine e_one 4 (zWf (first:=[]) (cap:=[.pointer (some ⟨b3,0,none⟩),.pointer (some ⟨b7,0,none⟩),.pointer (some ⟨b8,0,none⟩)]) (A':=fun y=>orA b7 60 48 rR (([])++(Po.iso (Po.sturm (Po.vals l1)) n (- (Po.bound (Po.cl (Po.vals l1)))) (Po.bound (Po.cl (Po.vals l1)))))) kr rfl rfl rfl rfl (.c rfl (.c rfl .n)) ce79 (zgg (pL:=p91) (nL:=(Po.sturm (Po.vals l1)).length) (cL:=c92) (L:=(Po.sturm (Po.vals l1))) (bl:=b3) (bo:=b7) (bd:=b8) (n:=n) (A:=[]) (u1:=w39) (v1:=w410) (x1:= - (Po.bound (Po.cl (Po.vals l1)))) (u2:=w34) (v2:=w45) (x2:=(Po.bound (Po.cl (Po.vals l1)))) (hnL:=by rfl) (hmL:=ass) (hA:=by show 0+_≤_;rw [Nat.zero_add];exact hA) (hk:=ass)) (.c (j:=2) rfl (.c (j:=1) rfl (.c (j:=4) rfl (.c (j:=0) rfl (.c (j:=3) rfl .n))))) ?_)
  rintro ⟨⟩ -
  dsimp only [aq,nq,cq]
  refine zT kr<|zd<|ze<|zOf (fun w mm=>mm.orOpen 0 rfl) ?_
  rintro ⟨p11,c12⟩ -
  dsimp only [List.eraseIdx]
  refine za<|e_ru (zh 0 ty60 rfl rfl rfl)<|e_p (zb rfl)<|e_p (zb rfl)<|zf<|zd<|zE<|zYa 1 rfl (.s .z) ?_
  exact zxa Tryz.results43 (p11,c12) trivial (zp rfl) (zp rfl) rfl (ho:=(.n:PickO _ _ _)) ((.c (j:=0) rfl .n):SelR _ _ _)
end Go.Proofs.YtbiaimgafknkmaaGreat.Sp
namespace Go.Proofs.YtbiaimgafknkmaaGreat.Sp
open Go
set_option linter.unusedVariables false
set_option maxRecDepth 100000
set_option maxHeartbeats 8000000
theorem zmf:Con yb 9 [] [] [] (Y:=Unit) (fun y=>True) (fun y=> .bool true) (fun y=>[]) (fun y=>[]):=by
 refine zl Tryz.func9 rfl rfl rfl (fun c=> ?_)
 show RunC _ _ _ _ _ [] [] []
 have hR:Po.eR.length=2:=rfl
 refine ze<|za<|e_p (zb rfl)<|zf<|zd<|ze<|za<|zsa rfl rfl (zL (enc:=fun z:Int=>[.int .i64 z]) (ok:=InK .i64) (h1:=fun _=>rfl) (h2:=fun _=>rfl) (k:=2) ye inf3 rfl dd dd dd (.c (x:=(-1)) rfl rfl (fun _ _=>by exact zua.2 om) (.c (x:=1) rfl rfl (fun _ _=>by exact zua.2 om) .n))) (fun b1 _=> ?_)
 refine zV 0 rfl .z<|zk rfl rfl (.c rfl .n) ce40 (zoc (p1:=some ⟨b1,0,none⟩) (n1:=2) (c1:=2) (l1:=[(-1),1]) (hn1:=by rfl) (hm1:=dd)) (.c (j:=0) rfl .n) ?_
 rintro ⟨p92,c93⟩ -
 dsimp only [aq,nq,cq]
 refine zsa rfl rfl (zL (enc:=fun z:Int=>[.int .i64 z]) (ok:=InK .i64) (h1:=fun _=>rfl) (h2:=fun _=>rfl) (k:=2) ye inf3 rfl dd dd dd (.c (x:=2) rfl rfl (fun _ _=>by exact zua.2 om) (.c (x:=1) rfl rfl (fun _ _=>by exact zua.2 om) .n))) (fun b4 _=> ?_)
 refine zV 0 rfl .z<|zk rfl rfl (.c rfl .n) ce40 (zoc (p1:=some ⟨b4,0,none⟩) (n1:=2) (c1:=2) (l1:=[2,1]) (hn1:=by rfl) (hm1:=dd)) (.c (j:=0) rfl .n) ?_
 rintro ⟨p95,c96⟩ -
 dsimp only [aq,nq,cq]
 refine zra (addQE 2 rfl)<|zra (addQE 1 rfl)<|zk rfl rfl (.c rfl (.c rfl .n)) ce17 (zvc (p1:=p92) (n1:=(Po.ofL ([(-1),1])).length) (c1:=c93) (l1:=((Po.ofL ([(-1),1])).map some)) (p2:=p95) (n2:=(Po.ofL ([2,1])).length) (c2:=c96) (l2:=((Po.ofL ([2,1])).map some)) (hn1:=by exact List.length_map _) (hm1:=dd) (hn2:=by exact List.length_map _) (hm2:=dd) (hm12:=dd) (hb1:=by rw [Po.vals_some];exact Po.bd_dec (by decide +kernel) dd) (hb2:=by rw [Po.vals_some];exact Po.bd_dec (by decide +kernel) dd) (hs:=by rw [Po.vals_some,Po.vals_some];exact fun k lo n _=>Po.cv_hq_of (K:=1) (L:=1) (N:=10) (Po.bd_cl (Po.bd_dec (by decide +kernel) dd)) (Po.bd_cl (Po.bd_dec (by decide +kernel) dd)) (by decide +kernel) dd k lo n)) (.c (j:=1) rfl (.c (j:=0) rfl .n)) ?_
 rintro ⟨p97,c98⟩ -
 dsimp only [aq,nq,cq]
 refine e_p (zb rfl)<|zf<|zd<|ze ?_
 have e9:(Po.mul (Po.vals ((Po.ofL ([(-1),1])).map some)) (Po.vals ((Po.ofL ([2,1])).map some)):List Rat)=Po.e1:=by rw [Po.vals_some,Po.vals_some];exact Po.ex_mul
 rw [e9]
 refine za<|e_mv rfl<|zsa rfl rfl (zL (enc:=fun z:Int=>[.int .i64 z]) (ok:=InK .i64) (h1:=fun _=>rfl) (h2:=fun _=>rfl) (k:=2) ye inf3 rfl dd dd dd (.c (x:=(-1)) rfl rfl (fun _ _=>by exact zua.2 om) (.c (x:=1) rfl rfl (fun _ _=>by exact zua.2 om) .n))) (fun b10 _=> ?_)
 refine zV 0 rfl .z<|zk rfl rfl (.c rfl .n) ce40 (zoc (p1:=some ⟨b10,0,none⟩) (n1:=2) (c1:=2) (l1:=[(-1),1]) (hn1:=by rfl) (hm1:=dd)) (.c (j:=0) rfl .n) ?_
 rintro ⟨p911,c912⟩ -
 dsimp only [aq,nq,cq]
 refine zra (addQE 2 rfl)<|zra (addQE 1 rfl)<|zk rfl rfl (.c rfl (.c rfl .n)) ce26 (zxb (p1:=p97) (n1:=(Po.e1).length) (c1:=c98) (l1:=((Po.e1).map some)) (p2:=p911) (n2:=(Po.ofL ([(-1),1])).length) (c2:=c912) (l2:=((Po.ofL ([(-1),1])).map some)) (hn1:=by exact List.length_map _) (hm1:=dd) (hn2:=by exact List.length_map _) (hm2:=dd) (hm12:=dd) (hb2:=by rw [Po.vals_some];exact Po.bd_dec (by decide +kernel) dd) (hok:=by rw [Po.vals_some,Po.vals_some];exact (Po.dgo_of (Po.cb_dec (by decide +kernel) dd) (Po.cb_dec (by decide +kernel) dd) dd (by decide +kernel)).2)) (.c (j:=1) rfl (.c (j:=0) rfl .n)) ?_
 rintro ⟨p813,c814,p915,c916⟩ -
 dsimp only [aq,nq,cq]
 refine e_mv rfl<|e_p (zm rfl rfl)<|e_p (zm rfl rfl)<|e_p (zm rfl rfl)<|e_p (zb rfl)<|e_p (zb rfl)<|e_p (zb rfl)<|zf<|zd<|ze ?_
 have e17:(Po.dq (Po.vals ((Po.e1).map some)) (Po.vals ((Po.ofL ([(-1),1])).map some)):List Rat)=Po.ofL [2,1]:=by rw [Po.vals_some,Po.vals_some];exact Po.ex_q
 rw [e17]
 have e18:(Po.dr (Po.vals ((Po.e1).map some)) (Po.vals ((Po.ofL ([(-1),1])).map some)):List Rat)=([]:List Rat):=by rw [Po.vals_some,Po.vals_some];exact Po.ex_r
 rw [e18]
 have e19:(([]:List Rat).length:Nat)=0:=by rfl
 rw [e19]
 have e20:(Po.dc (Po.vals ((Po.ofL ([(-1),1])).map some)):Int)=0:=by rw [Po.vals_some];exact Po.ex_c
 rw [e20]
 refine za<|zsa rfl rfl (zL (enc:=fun z:Int=>[.int .i64 z]) (ok:=InK .i64) (h1:=fun _=>rfl) (h2:=fun _=>rfl) (k:=3) ye inf3 rfl dd dd dd (.c (x:=(-2)) rfl rfl (fun _ _=>by exact zua.2 om) (.c (x:=0) rfl rfl (fun _ _=>by exact zua.2 om) (.c (x:=1) rfl rfl (fun _ _=>by exact zua.2 om) .n)))) (fun b21 _=> ?_)
 refine zV 0 rfl .z<|zk rfl rfl (.c rfl .n) ce40 (zoc (p1:=some ⟨b21,0,none⟩) (n1:=3) (c1:=3) (l1:=[(-2),0,1]) (hn1:=by rfl) (hm1:=dd)) (.c (j:=0) rfl .n) ?_
 rintro ⟨p922,c923⟩ -
 dsimp only [aq,nq,cq]
 refine zra (addQE 0 rfl)<|zk rfl rfl (.c rfl .n) ce43 (zqc (p1:=p922) (n1:=(Po.ofL ([(-2),0,1])).length) (c1:=c923) (l1:=((Po.ofL ([(-2),0,1])).map some)) (n:=10) (hn1:=by exact List.length_map _) (hm1:=dd) (hok:=by rw [Po.vals_some];exact Po.ex_s2.1) (hb:=by rw [Po.vals_some];exact Po.bd_dec (by decide +kernel) dd) (hne:=by rw [Po.vals_some];exact Po.ex_ne2) (hne2:=by rw [Po.vals_some];decide +kernel) (hlS:=by rw [Po.vals_some];exact Nat.le_trans Po.ex_l2 dd) (hA:=by rw [Po.vals_some];rw [show Po.iso (Po.sturm (Po.ofL [(-2),0,1])) 10 (-Po.bound (Po.cl (Po.ofL [(-2),0,1]))) (Po.bound (Po.cl (Po.ofL [(-2),0,1])))=Po.eR from Po.ex_iso];decide) (hk:=by rw [Po.vals_some];exact Po.ex_k2)) (.c (j:=0) rfl .n) ?_
 rintro ⟨p924,c925⟩ -
 dsimp only [aq,nq,cq]
 refine e_mv rfl<|e_p (zm rfl rfl)<|e_p (zm rfl rfl)<|e_p (zb rfl)<|e_p (zb rfl)<|zf<|zd<|ze ?_
 have e26:(Po.iso (Po.sturm (Po.vals ((Po.ofL ([(-2),0,1])).map some))) 10 (-(Po.bound (Po.cl (Po.vals ((Po.ofL ([(-2),0,1])).map some))))) (Po.bound (Po.cl (Po.vals ((Po.ofL ([(-2),0,1])).map some)))):List (Rat×Rat))=Po.eR:=by rw [Po.vals_some];exact Po.ex_iso
 rw [e26]
 refine za<|zsa rfl rfl (zL (enc:=fun z:Int=>[.int .i64 z]) (ok:=InK .i64) (h1:=fun _=>rfl) (h2:=fun _=>rfl) (k:=4) ye inf3 rfl dd dd dd (.c (x:=0) rfl rfl (fun _ _=>by exact zua.2 om) (.c (x:=(-1)) rfl rfl (fun _ _=>by exact zua.2 om) (.c (x:=0) rfl rfl (fun _ _=>by exact zua.2 om) (.c (x:=1) rfl rfl (fun _ _=>by exact zua.2 om) .n))))) (fun b27 _=> ?_)
 refine zV 0 rfl .z<|zk rfl rfl (.c rfl .n) ce40 (zoc (p1:=some ⟨b27,0,none⟩) (n1:=4) (c1:=4) (l1:=[0,(-1),0,1]) (hn1:=by rfl) (hm1:=dd)) (.c (j:=0) rfl .n) ?_
 rintro ⟨p928,c929⟩ -
 dsimp only [aq,nq,cq]
 refine zk rfl rfl (.c rfl .n) ce42 (zkb (z:=(-1)) (hz:=by first|rfl|decide|omega)) (.n) ?_
 rintro ⟨w330,w431⟩ -
 dsimp only [aq,nq,cq]
 refine zk rfl rfl (.c rfl .n) ce42 (zkb (z:=1) (hz:=by first|rfl|decide|omega)) (.n) ?_
 rintro ⟨w332,w433⟩ -
 dsimp only [aq,nq,cq]
 refine zra (addQE 2 rfl)<|zM rfl rfl (.c rfl (.c rfl (.c rfl .n))) ce45 (zEe (p1:=p928) (n1:=(Po.ofL ([0,(-1),0,1])).length) (c1:=c929) (l1:=((Po.ofL ([0,(-1),0,1])).map some)) (u1:=w330) (v1:=w431) (x1:=(((-1):Int):Rat)) (u2:=w332) (v2:=w433) (x2:=((1:Int):Rat)) (hn1:=by exact List.length_map _) (hm1:=dd) (hok:=by rw [Po.vals_some];exact Po.ex_s3.1) (hne:=by rw [Po.vals_some];exact Po.ex_ne3) (hlS:=by rw [Po.vals_some];exact Nat.le_trans Po.ex_l3 dd) (hx1:=by decide +kernel) (hx2:=by decide +kernel) (hv1:=by rw [Po.vals_some];exact Po.vok_sturm Po.ex_s3.2 (by decide +kernel)) (hv2:=by rw [Po.vals_some];exact Po.vok_sturm Po.ex_s3.2 (by decide +kernel)) (hle:=by decide +kernel)) (.c (j:=0) rfl (.c (j:=2) rfl (.c (j:=1) rfl .n)))<|e_mv rfl<|e_p (zm rfl rfl)<|e_p (zm rfl rfl)<|e_p (zb rfl)<|e_p (zb rfl)<|zf<|zd<|zWa (X:=Unit) (fun x=>True) (fun x=>[(0,.bool true)]) (fun x=>[]) (fun x=>[slF rE p928 c929 ((Po.ofL ([0,(-1),0,1])).map some),qF true w332 w433 ((1:Int):Rat),qF true w330 w431 (((-1):Int):Rat),slF rQ p928 c929 (Po.ofL ([0,(-1),0,1])),slF (rI .i64) (some ⟨b27,0,none⟩) 4 ([0,(-1),0,1]),slF rR p924 c925 (Po.eR),slF rE p922 c923 ((Po.ofL ([(-2),0,1])).map some),slF rQ p922 c923 (Po.ofL ([(-2),0,1])),slF (rI .i64) (some ⟨b21,0,none⟩) 3 ([(-2),0,1]),slF rQ p813 c814 (Po.ofL [2,1]),slF rQ p915 c916 ([]:List Rat),slF rE p911 c912 ((Po.ofL ([(-1),1])).map some),slF rE p97 c98 ((Po.e1).map some),slF rQ p911 c912 (Po.ofL ([(-1),1])),slF (rI .i64) (some ⟨b10,0,none⟩) 2 ([(-1),1]),slF rQ p97 c98 (Po.e1),slF rE p95 c96 ((Po.ofL ([2,1])).map some),slF rE p92 c93 ((Po.ofL ([(-1),1])).map some),slF rQ p95 c96 (Po.ofL ([2,1])),slF (rI .i64) (some ⟨b4,0,none⟩) 2 ([2,1]),slF rQ p92 c93 (Po.ofL ([(-1),1])),slF (rI .i64) (some ⟨b1,0,none⟩) 2 ([(-1),1])]) ?_ ?_
 ·
  have e34:(Po.bt (Po.sturm (Po.vals ((Po.ofL ([0,(-1),0,1])).map some))) (((-1):Int):Rat) ((1:Int):Rat):Int)=2:=by rw [Po.vals_some];exact Po.ex_bt
  rw [e34]
  refine zU (OW:=[]) (O:=[emA,emA,emA,emA,emA]) 100000 mixed (.then .ret) kr<|e_dm 0 rfl rfl rfl<|e_dm 1 rfl rfl rfl<|e_pv 2 rfl rfl (zK (z:=0) rfl rfl (w64 dd))<|e_dm 3 rfl rfl rfl<|e_pv 4 rfl rfl (zK (z:=0) rfl rfl (w64 dd))<|e_pv 5 rfl rfl (zia rfl rfl)<|e_dm 6 rfl rfl rfl<|e_dm 7 rfl rfl rfl<|e_one 8 (zoe rfl rfl rfl rfl (zL (enc:=fun z:Int=>[.int .i64 z]) (ok:=InK .i64) (h1:=fun _=>rfl) (h2:=fun _=>rfl) (k:=3) ye inf3 rfl dd dd dd (.c (x:=(-2)) rfl rfl (fun _ _=>by exact zua.2 om) (.c (x:=1) rfl rfl (fun _ _=>by exact zua.2 om) (.c (x:=1) rfl rfl (fun _ _=>by exact zua.2 om) .n)))) (fun b35 _=> ?_))
  refine zQb 0 rfl .z<|e_one 9 (zu rfl rfl rfl rfl (.c rfl .n) ce40 (zoc (p1:=some ⟨b35,0,none⟩) (n1:=3) (c1:=3) (l1:=[(-2),1,1]) (hn1:=by rfl) (hm1:=dd)) (.c (j:=0) rfl .n) ?_)
  rintro ⟨p936,c937⟩ -
  dsimp only [aq,nq,cq]
  refine e_one 10 (zNa rfl rfl rfl rfl (.c rfl (.c rfl .n)) ce12 (zHd (p1:=p97) (n1:=(Po.e1).length) (c1:=c98) (l1:=(Po.e1)) (p2:=p936) (n2:=(Po.ofL ([(-2),1,1])).length) (c2:=c937) (l2:=(Po.ofL ([(-2),1,1]))) (hn1:=by rfl) (hm1:=dd) (hn2:=by rfl) (hm2:=dd) (hb1:=by exact Po.bd_dec (by decide +kernel) dd) (hb2:=by exact Po.bd_dec (by decide +kernel) dd)) (.c (j:=17) rfl (.c (j:=0) rfl .n)) ?_)
  rw [show (decide ((Po.e1)=(Po.ofL ([(-2),1,1]))))=true from by exact decide_eq_true (by decide +kernel)]
  refine e_pv 11 rfl rfl (zJ rfl rfl)<|e_dm 12 rfl rfl rfl<|e_dm 13 rfl rfl rfl<|e_one 14 (zoe rfl rfl rfl rfl (zL (enc:=fun z:Int=>[.int .i64 z]) (ok:=InK .i64) (h1:=fun _=>rfl) (h2:=fun _=>rfl) (k:=2) ye inf3 rfl dd dd dd (.c (x:=2) rfl rfl (fun _ _=>by exact zua.2 om) (.c (x:=1) rfl rfl (fun _ _=>by exact zua.2 om) .n))) (fun b38 _=> ?_))
  refine zQb 0 rfl .z<|e_one 15 (zu rfl rfl rfl rfl (.c rfl .n) ce40 (zoc (p1:=some ⟨b38,0,none⟩) (n1:=2) (c1:=2) (l1:=[2,1]) (hn1:=by rfl) (hm1:=dd)) (.c (j:=0) rfl .n) ?_)
  rintro ⟨p939,c940⟩ -
  dsimp only [aq,nq,cq]
  refine e_one 16 (zNa rfl rfl rfl rfl (.c rfl (.c rfl .n)) ce12 (zHd (p1:=p813) (n1:=(Po.ofL [2,1]).length) (c1:=c814) (l1:=(Po.ofL [2,1])) (p2:=p939) (n2:=(Po.ofL ([2,1])).length) (c2:=c940) (l2:=(Po.ofL ([2,1]))) (hn1:=by rfl) (hm1:=dd) (hn2:=by rfl) (hm2:=dd) (hb1:=by exact Po.bd_dec (by decide +kernel) dd) (hb2:=by exact Po.bd_dec (by decide +kernel) dd)) (.c (j:=13) rfl (.c (j:=0) rfl .n)) ?_)
  rw [show (decide ((Po.ofL [2,1])=(Po.ofL ([2,1]))))=true from by exact decide_eq_true (by decide +kernel)]
  refine e_pv 17 rfl rfl (zJ rfl rfl)<|e_dm 18 rfl rfl rfl<|e_dm 19 rfl rfl rfl<|e_pv 20 rfl rfl (zD ya rfl)<|e_pv 21 rfl rfl (zia rfl rfl)<|e_pv 22 rfl rfl (zJ rfl rfl)<|e_dm 23 rfl rfl rfl<|e_dm 24 rfl rfl rfl<|e_pv 25 rfl rfl (zD yh rfl)<|e_pv 26 rfl rfl (zia rfl rfl) ?_
  rw [show (decide ((((Po.eR).length:Nat):Int)=2))=true from by exact decide_eq_true dd]
  refine e_pv 27 rfl rfl (zJ rfl rfl)<|e_dm 28 rfl rfl rfl<|e_dm 29 rfl rfl rfl<|d_vl 30 rfl rfl kr kr rfl rfl (zla (x0:=((Po.eR).getD 0 ((0:Rat),(0:Rat)))) 9 0 rfl yh sz48 rfl cbo rfl rfl (gD (d:=((0:Rat),(0:Rat))) om)) ?_
  rintro ⟨b41,o42,w43,w44,w45,w46⟩ -
  dsimp only [aq,nq,cq]
  refine zVa open_rR<|e_u 31 rfl rfl (zS (j:=0) 0 ty48 rfl rfl rfl (.t8 .nil))<|e_one 32 (zu rfl rfl rfl rfl (.c rfl .n) ce42 (zkb (z:=(-3)) (hz:=by first|rfl|decide|omega)) (.n) ?_)
  rintro ⟨w347,w448⟩ -
  dsimp only [aq,nq,cq]
  refine e_one 33 (zu rfl rfl rfl rfl (.c rfl .n) ce42 (zkb (z:=0) (hz:=by first|rfl|decide|omega)) (.n) ?_)
  rintro ⟨w349,w450⟩ -
  dsimp only [aq,nq,cq]
  refine e_pv 34 rfl rfl (zG zr48 rfl yg (.c sz28 (.c sz28 .n)) (.c rfl (.c rfl .n)) (.c rfl rfl rfl (.t4 .nil) (.c rfl rfl rfl (.s4 (.t4 .nil)) .n)))<|e_one 35 (zNa rfl rfl rfl rfl (.c rfl (.c rfl .n)) ce39 (zpc (u1:=w43) (u2:=w45) (u3:=w347) (u4:=w349) (v1:=w44) (v2:=w46) (v3:=w448) (v4:=w450) (q1:=((Po.eR).getD 0 ((0:Rat),(0:Rat))).1) (q2:=((Po.eR).getD 0 ((0:Rat),(0:Rat))).2) (q3:=(((-3):Int):Rat)) (q4:=((0:Int):Rat)) (hl1:=by decide +kernel) (hl2:=by decide +kernel)) (.c (j:=3) rfl (.c (j:=4) rfl (.c (j:=1) rfl (.c (j:=0) rfl .n)))) ?_)
  rw [show (decide ((((Po.eR).getD 0 ((0:Rat),(0:Rat))).1)=(((-3):Int):Rat)∧(((Po.eR).getD 0 ((0:Rat),(0:Rat))).2)=((0:Int):Rat)))=true from by exact decide_eq_true (by decide +kernel)]
  refine e_pv 36 rfl rfl (zJ rfl rfl)<|e_dm 37 rfl rfl rfl<|e_dm 38 rfl rfl rfl<|d_vl 39 rfl rfl kr kr rfl rfl (zla (x0:=((Po.eR).getD 1 ((0:Rat),(0:Rat)))) 14 1 rfl yh sz48 rfl cbo rfl rfl (gD (d:=((0:Rat),(0:Rat))) om)) ?_
  rintro ⟨b51,o52,w53,w54,w55,w56⟩ -
  dsimp only [aq,nq,cq]
  refine zVa open_rR<|e_u 40 rfl rfl (zS (j:=0) 0 ty48 rfl rfl rfl (.t8 .nil))<|e_one 41 (zu rfl rfl rfl rfl (.c rfl .n) ce42 (zkb (z:=0) (hz:=by first|rfl|decide|omega)) (.n) ?_)
  rintro ⟨w357,w458⟩ -
  dsimp only [aq,nq,cq]
  refine e_one 42 (zu rfl rfl rfl rfl (.c rfl .n) ce42 (zkb (z:=3) (hz:=by first|rfl|decide|omega)) (.n) ?_)
  rintro ⟨w359,w460⟩ -
  dsimp only [aq,nq,cq]
  refine e_pv 43 rfl rfl (zG zr48 rfl yg (.c sz28 (.c sz28 .n)) (.c rfl (.c rfl .n)) (.c rfl rfl rfl (.t4 .nil) (.c rfl rfl rfl (.s4 (.t4 .nil)) .n)))<|e_one 44 (zNa rfl rfl rfl rfl (.c rfl (.c rfl .n)) ce39 (zpc (u1:=w53) (u2:=w55) (u3:=w357) (u4:=w359) (v1:=w54) (v2:=w56) (v3:=w458) (v4:=w460) (q1:=((Po.eR).getD 1 ((0:Rat),(0:Rat))).1) (q2:=((Po.eR).getD 1 ((0:Rat),(0:Rat))).2) (q3:=((0:Int):Rat)) (q4:=((3:Int):Rat)) (hl1:=by decide +kernel) (hl2:=by decide +kernel)) (.c (j:=3) rfl (.c (j:=4) rfl (.c (j:=1) rfl (.c (j:=0) rfl .n)))) ?_)
  rw [show (decide ((((Po.eR).getD 1 ((0:Rat),(0:Rat))).1)=((0:Int):Rat)∧(((Po.eR).getD 1 ((0:Rat),(0:Rat))).2)=((3:Int):Rat)))=true from by exact decide_eq_true (by decide +kernel)]
  refine e_pv 45 rfl rfl (zJ rfl rfl)<|e_dm 46 rfl rfl rfl<|e_dm 47 rfl rfl rfl<|e_pv 48 rfl rfl (zia rfl rfl)<|e_pv 49 rfl rfl (zJ rfl rfl)<|e_pv 50 rfl rfl (zb rfl)<|zT kr ?_
  exact zna () (show True from by first|trivial|omega|simp_all) ((.c rfl .n):SubM _ _) (ho:=(.n:PickO _ _ _)) ((.of [14,15,16,17,18,19,20,21,22,23,24,25,26,27,28,29,30,31,32,33,34,35] rfl):SelR _ _ _)
 ·
  rintro ⟨⟩ -
  try dsimp only
  refine zE ?_
  exact zA Tryz.results9 () trivial (zp rfl) rfl (ho:=(.n:PickO _ _ _)) (.n:SelR _ _ _)
end Go.Proofs.YtbiaimgafknkmaaGreat.Sp
namespace Go.Proofs.YtbiaimgafknkmaaGreat.Po
open Go.Proofs.YtbiaimgafknkmaaGreat.Big
theorem ev_drop_hq {K L N:Nat} {x:Rat} {p:List Rat} (hx:hq x≤L) (h:bd K p) (hl:p.length≤N) (i:Nat):hq (ev x (p.drop i))≤1+N*(K+L+1):=by
  refine Nat.le_trans (ev_hq (K:=K) hx (l:=p.drop i) fun j=> ?_) (Nat.add_le_add_left (Nat.mul_le_mul_right _ (by rw [List.length_drop];omega)) _)
  have:(p.drop i).getD j 0=p.getD (i+j) 0:=by rw [List.getD_eq_getElem?_getD,List.getElem?_drop,←List.getD_eq_getElem?_getD]
  rw [this];exact h _
theorem scl_len (p:List Rat) (x:Rat):(scl p x).length≤p.length:=by
  unfold scl
  exact Nat.le_trans (cl_le_len _) (by rw [gen_len];exact Nat.le_refl _)
theorem mul_clr (p q:List Rat):mul p (cl q)=mul p q:=by unfold mul;rw [cl_cl]
theorem dqr_spec {p q:List Rat} (hn:(cl q).length≠0):(dr p q).length<(cl q).length∧add (mul (dq p q) q) (dr p q)=cl p:=by
  have h:=divp_spec (p:=p) (q:=q) (fun e=>hn (by rw [e];rfl))
  unfold dq dr
  rw [if_neg hn,if_neg hn]
  rw [mul_clr] at h
  exact h
end Go.Proofs.YtbiaimgafknkmaaGreat.Po
namespace Go.Proofs.YtbiaimgafknkmaaGreat.Po
open Go.Proofs.YtbiaimgafknkmaaGreat.Big
theorem scl_cl (l:List Rat) (a:Rat):cl (scl l a)=scl l a:=cl_cl _
theorem last_ne {l:List Rat} (hl:cl l=l) (h:l.length≠0):l.getD (l.length - 1) 0≠0:=lead_ne hl (fun e=>h (by rw [e];rfl))
theorem len_le_of {l m:List Rat} (hl:cl l=l) (h:∀i,m.getD i 0=0→l.getD i 0=0):l.length≤m.length:=by
  by_cases h0:l.length=0
  · omega
  · refine Decidable.byContradiction fun k=>last_ne hl h0 (h _ (gD0 (by omega)))
theorem scl_length {l:List Rat} {a:Rat} (hl:cl l=l) (ha:a≠0):(scl l a).length=l.length:=by
  refine Nat.le_antisymm (scl_len l a) (len_le_of hl fun i h=> ?_)
  rw [scl_get] at h
  rcases Rat.mul_eq_zero.1 h with e|e
  · exact e
  · exact absurd e ha
theorem inv_ne {x:Rat} (h:x≠0):((1:Int):Rat) / x≠0:=fun e=>by
  have:=Rat.div_mul_cancel (a:=((1:Int):Rat)) h
  rw [e,Rat.zero_mul] at this
  exact absurd this (by decide +kernel)
theorem mo_scl {l:List Rat} (hl:cl l=l):∃a,a≠0∧mo l=scl l a:=by
  by_cases h:l.length=0
  · exact ⟨1,by decide +kernel,by unfold mo;rw [if_pos h,List.length_eq_zero_iff.1 h];rfl⟩
  · exact ⟨((1:Int):Rat) / lead l,inv_ne (last_ne hl h),by unfold mo;rw [if_neg h,scl_mul]⟩
theorem mo_length {l:List Rat} (hl:cl l=l):(mo l).length=l.length:=by
  obtain ⟨a,ha,e⟩:=mo_scl hl
  rw [e,scl_length hl ha]
def rgok:Nat→List Rat→List Rat→Prop
  |0,p,_=>bd 60000000000 p
  |n+1,p,q=>bd 60000000000 p∧(q.length≠0→dgo p q∧rgok n q (dr p q))
theorem rgok_cb {N:Nat} (hN0:1≤N):∀(n K:Nat) (p q:List Rat),cl p=p→cl q=q→cb K p→cb K q→p.length+1≤N→q.length+1≤N→(K+1)*(N+1)^n≤60000000000→rgok n p q
  | 0, K, p, q, _, _, hp, _, _, _, hb => bd_mono (cb_bd hp) (by have : (K + 1) * (N + 1) ^ 0 = K + 1 := by simp
                                                                omega)
  |n+1,K,p,q,cp,cq,hp,hq,lp,lq,hb=>by
    have e1:(K+1)*(N+1)^(n+1)=(K+1)*(N+1)*(N+1)^n:=by rw [Nat.pow_succ,Nat.mul_assoc,Nat.mul_comm (N+1)]
    have e2:(K+1)*(N+1)≤(K+1)*(N+1)*(N+1)^n:=Nat.le_mul_of_pos_right _ (Nat.pow_pos (by omega))
    have e3:K+N*(K+1)+1=(K+1)*(N+1):=by rw [Nat.mul_comm (K+1),Nat.succ_mul];omega
    have e4:K+1≤(K+1)*(N+1):=Nat.le_mul_of_pos_right _ (by omega)
    refine ⟨bd_mono (cb_bd hp) (by omega),fun h0=> ?_⟩
    have hd:=(div_cb (N:=N) cp cq h0 hp hq (by omega)).2
    have hlt:=dr_less (p:=p) cq h0
    exact ⟨dgo_cb cp cq h0 hp hq lp (by omega) (by omega),rgok_cb hN0 n (K+N*(K+1)) q (dr p q) cq (dr_cl _ _) (cb_mono hq (by omega)) hd lq (by omega) (by rw [e3,←e1];exact hb)⟩
theorem mo_scl' (l:List Rat):mo l=if l.length=0 then [] else scl l (((1:Int):Rat) / lead l):=by unfold mo;rw [scl_mul]
end Go.Proofs.YtbiaimgafknkmaaGreat.Po
namespace Go.Proofs.YtbiaimgafknkmaaGreat.Po
open Go.Proofs.YtbiaimgafknkmaaGreat.Big
theorem ev_scl (x a:Rat) (l:List Rat):ev x (scl l a)=ev x l*a:=by
  rw [scl_mul,ev_mul]
  show ev x l*(0*x+a)=_
  grind
theorem ev_sub (x:Rat) (p q:List Rat):ev x (sub p q)=ev x p - ev x q:=by
  rw [← sub_scl,ev_add,ev_scl,show (((-1:Int):Int):Rat)= -1 by decide +kernel]
  grind
def syn (x:Rat):List Rat→List Rat
  |[]=>[]
  |[_]=>[]
  |_ :: b :: l=>ev x (b :: l) :: syn x (b :: l)
theorem syn_ev (x t:Rat):∀l:List Rat,ev t l=(t - x)*ev t (syn x l)+ev x l
  |[]=>by show (0:Rat)=(t - x)*0+0;grind
  |[a]=>by show 0*t+a=(t - x)*0+(0*x+a);grind
  |a :: b :: l=>by
    have ih:=syn_ev x t (b :: l)
    show ev t (b :: l)*t+a=(t - x)*(ev t (syn x (b :: l))*t+ev x (b :: l))+(ev x (b :: l)*x+a)
    rw [ih];grind
theorem syn_len (x:Rat):∀l:List Rat,(syn x l).length=l.length - 1
  |[]=>rfl
  |[_]=>rfl
  |a :: b :: l=>by
    show (syn x (b :: l)).length+1=l.length+1+1 - 1
    rw [syn_len x (b :: l)];rfl
theorem fresh:∀E:List Rat,∃t,∀e,e∈E→e<t
  |[]=>⟨0,fun e h=>by cases h⟩
  |a :: E=>by
    obtain ⟨t,ht⟩:=fresh E
    by_cases h:a<t
    · exact ⟨t,fun e he=>by rcases List.mem_cons.1 he with rfl|he;exact h;exact ht e he⟩
    · refine ⟨a + 1, fun e he => ?_⟩
      rcases List.mem_cons.1 he with rfl|he
      · grind
      · have:=ht e he;grind
theorem ev_vanish:∀(n:Nat) (l:List Rat),l.length≤n→∀E:List Rat,(∀t,t ∉ E→ev t l=0)→∀t,ev t l=0
  |0,l,hl,_,_,t=>by rw [List.length_eq_zero_iff.1 (show l.length=0 by omega)];rfl
  |n+1,l,hl,E,h,t=>by
    obtain ⟨s,hs⟩:=fresh E
    have hsE:s ∉ E:=fun k=>by have:=hs s k;grind
    have h0:=h s hsE
    have ih:=ev_vanish n (syn s l) (by rw [syn_len];omega) (s :: E) fun t ht=>by
      have h1:=h t fun k=>ht (List.mem_cons_of_mem _ k)
      have h2:=syn_ev s t l
      rw [h0,h1] at h2
      have h3:(t - s)*ev t (syn s l)=0:=by grind
      rcases Rat.mul_eq_zero.1 h3 with k|k
      · exact absurd (List.mem_cons.2 (.inl (by grind))) ht
      · exact k
    rw [syn_ev s t l,ih t,h0];grind
theorem ev_coef:∀l:List Rat,(∀t,ev t l=0)→∀i,l.getD i 0=0
  |[],_,i=>gD0 (Nat.zero_le _)
  |a :: l,h,i=>by
    have ha:a=0:=by
      have:=h 0
      have e:ev 0 (a :: l)=ev 0 l*0+a:=rfl
      rw [e] at this;grind
    have hl:=ev_vanish l.length l (Nat.le_refl _) [0] fun t ht=>by
      have:=h t
      have e:ev t (a :: l)=ev t l*t+a:=rfl
      rw [e,ha,Rat.add_zero] at this
      rcases Rat.mul_eq_zero.1 this with k|k
      · exact k
      · exact absurd (List.mem_cons.2 (.inl k)) ht
    cases i with
    |zero=>exact ha
    |succ i=>exact ev_coef l hl i
theorem ev_eq {p q:List Rat} (h:∀t,ev t p=ev t q) (i:Nat):p.getD i 0=q.getD i 0:=by
  have:=ev_coef (sub p q) (fun t=>by rw [ev_sub,h];grind) i
  rw [sub_get] at this;grind
theorem ev_ext' {p q:List Rat} (hp:cl p=p) (hq:cl q=q) (h:∀t,ev t p=ev t q):p=q:=zJa hp hq (ev_eq h)
theorem der_ext {p q:List Rat} (h:∀t,ev t p=ev t q):der p=der q:=zJa (der_cl _) (der_cl _) fun i=>by rw [der_get,der_get,ev_eq h]
theorem mo_ev {l:List Rat} (hl:cl l=l) (t:Rat):ev t (mo l)*lead l=ev t l:=by
  rw [mo_scl']
  split
  · rename_i h
    rw [List.length_eq_zero_iff.1 h]
    show (0:Rat)*_=0
    grind
  · rename_i h
    have h0:lead l≠0:=last_ne hl h
    rw [ev_scl,Rat.mul_assoc,Rat.div_mul_cancel h0,show ((1:Int):Rat)=1 by decide +kernel,Rat.mul_one]
theorem div_ev {p q:List Rat} (hp:cl p=p) (hq:cl q=q) (h:q.length≠0) (t:Rat):ev t p=ev t (dq p q)*ev t q+ev t (dr p q):=by
  have:=(dqr_spec (p:=p) (q:=q) (by rw [hq];exact h)).2
  rw [hp] at this
  rw [← this,ev_add,ev_mul]
  rw [this]
def dvd (g p:List Rat):Prop:=∃u:List Rat,∀t,ev t p=ev t g*ev t u
theorem ge_dvd:∀(n:Nat) (p q:List Rat),cl p=p→cl q=q→q.length≤n→dvd (ge n p q) p∧dvd (ge n p q) q
  |0,p,q,_,_,hn=>by
    refine ⟨⟨[1],fun t=> ?_⟩,⟨[],fun t=> ?_⟩⟩
    · show ev t p=ev t p*(0*t+1);grind
    · rw [List.length_eq_zero_iff.1 (show q.length = 0 by omega)]
      show (0:Rat)=_*0;grind
  |n+1,p,q,hp,hq,hn=>by
    by_cases h:q.length=0
    · rw [ge_nil h]
      refine ⟨⟨[1],fun t=> ?_⟩,⟨[],fun t=> ?_⟩⟩
      · show ev t p=ev t p*(0*t+1);grind
      · rw [List.length_eq_zero_iff.1 h]
        show (0:Rat)=_*0;grind
    · have e : ge (n + 1) p q = ge n q (mo (dr p q)) := if_neg h
      have hlt:=dr_less (p:=p) hq h
      have hml:=mo_len (dr p q)
      obtain ⟨⟨u,hu⟩,⟨v,hv⟩⟩:=ge_dvd n q (mo (dr p q)) hq (mo_cl _) (by omega)
      rw [e]
      refine ⟨⟨add (mul (dq p q) u) (mul v [lead (dr p q)]),fun t=> ?_⟩,u,hu⟩
      rw [div_ev hp hq h,ev_add,ev_mul,ev_mul,←mo_ev (dr_cl p q),hu,hv]
      show _=_*(_+_*(0*t+lead (dr p q)))
      grind
theorem gcd_dvd (p q:List Rat) (hp:cl p=p) (hq:cl q=q):dvd (gcd p q) p∧dvd (gcd p q) q:=by
  have h:=ge_dvd (cl q).length (mo (cl p)) (mo (cl q)) (mo_cl _) (mo_cl _) (mo_len _)
  obtain ⟨⟨u,hu⟩,⟨v,hv⟩⟩:=h
  unfold gcd
  refine ⟨⟨mul u [lead p],fun t=> ?_⟩,⟨mul v [lead q],fun t=> ?_⟩⟩
  · rw [ev_mul, ← Rat.mul_assoc, ← hu, hp, ← mo_ev hp]
    show _=_*(0*t+lead p);grind
  · rw [ev_mul, ← Rat.mul_assoc, ← hv, hq, ← mo_ev hq]
    show _=_*(0*t+lead q);grind
theorem co_top {f g:Nat→Rat} {a b:Nat} (hf:∀i,a<i→f i=0) (hg:∀i,b<i→g i=0):∀n,n≤a+b+1→co f g (a+b) n=if a<n then f a*g b else 0
  |0,_=>by rw [if_neg (by omega)];rfl
  |n+1,hn=>by
    show co f g (a+b) n+f n*g (a+b - n)=_
    rw [co_top hf hg n (by omega)]
    by_cases h1:n<a
    · rw [if_neg (by omega),if_neg (by omega),hg (a+b - n) (by omega)];grind
    · by_cases h2 : n = a
      · subst h2
        rw [if_neg (by omega),if_pos (by omega),show n+b - n=b by omega];grind
      · rw [if_pos (by omega),if_pos (by omega),hf n (by omega)];grind
theorem mul_length {p q:List Rat} (hp:cl p=p) (hq:cl q=q) (h1:p.length≠0) (h2:q.length≠0):(mul p q).length=p.length+q.length - 1:=by
  refine Nat.le_antisymm (mul_len p q) (Decidable.byContradiction fun k=> ?_)
  have e:=mul_get p q (p.length - 1+(q.length - 1))
  rw [gD0 (by omega)] at e
  unfold C at e
  rw [co_top (fun i hi=>gD0 (by omega)) (fun i hi=>gD0 (by omega)) _ (Nat.le_refl _),if_pos (by omega)] at e
  rcases Rat.mul_eq_zero.1 e.symm with k|k
  · exact last_ne hp h1 k
  · exact last_ne hq h2 k
theorem dr_dvd {p g:List Rat} (hp:cl p=p) (hg:cl g=g) (h:g.length≠0) (k:dvd g p):dr p g=[]:=by
  obtain ⟨u,hu⟩:=k
  have hlt:=dr_less (p:=p) hg h
  have e:dr p g=mul g (sub u (dq p g)):=ev_ext' (dr_cl _ _) (mul_cl _ _) fun t=>by
    have h1:=div_ev hp hg h t
    rw [ev_mul,ev_sub]
    rw [hu t] at h1
    grind
  by_cases h0:(sub u (dq p g)).length=0
  · rw [e,List.length_eq_zero_iff.1 h0,mul_comm',mul_nil]
  · have := mul_length hg (sub_cl u (dq p g)) h h0
    rw [← e] at this
    omega
theorem exact_mul {p g:List Rat} (hp:cl p=p) (hg:cl g=g) (h:g.length≠0) (k:dvd g p):mul (dq p g) g=p:=ev_ext' (mul_cl _ _) hp fun t=>by
  have:=div_ev hp hg h t
  rw [dr_dvd hp hg h k] at this
  rw [ev_mul,this]
  show _=_+(0:Rat);grind
theorem ev_lin (t x:Rat):ev t [-x,1]=t - x:=by show (0*t+1)*t+ -x=t - x;grind
theorem der_syn {x:Rat} {h:List Rat} (h0:ev x h=0) (t:Rat):ev t (der h)=ev t (syn x h)+(t - x)*ev t (der (syn x h)):=by
  have e:der h=der (mul [-x,1] (syn x h)):=der_ext fun t=>by rw [ev_mul,ev_lin,syn_ev x t h,h0];grind
  rw [e,der_mul,ev_add,ev_mul,ev_mul,ev_lin]
  have:ev t (der [-x,1])=1:=by
    have:der [-x,1]=[1]:=zJa (der_cl _) (by decide +kernel) fun i=>by
      rw [der_get]
      match i with
      |0=>show ((1:Int):Rat)*1=1;decide +kernel
      |i+1=>show _*(0:Rat)=0;rw [Rat.mul_zero]
    rw [this];show 0*t+1=1;grind
  rw [this];grind
theorem root_key (x:Rat) (q w:List Rat):∀(n:Nat) (h:List Rat) (k:Rat),h.length≤n→0≤k→(k≠0∨ev x h=0)→(∃t,ev t h≠0)→
    (∀t,k*ev t q*ev t h+(t - x)*ev t q*ev t (der h)=(t - x)*ev t h*ev t w)→ev x q=0
  |0,h,k,hn,_,_,⟨t,ht⟩,_=>absurd (by rw [List.length_eq_zero_iff.1 (show h.length=0 by omega)];rfl) ht
  |n+1,h,k,hn,hk,hc,⟨t0,ht0⟩,e=>by
    by_cases hx:ev x h=0
    · have hd := der_syn hx
      have hs:∀t,ev t h=(t - x)*ev t (syn x h):=fun t=>by rw [syn_ev x t h,hx];grind
      refine root_key x q w n (syn x h) (k+1) (by rw [syn_len];omega) (by grind) (.inl (by grind)) ⟨t0,fun z=>ht0 (by rw [hs,z];grind)⟩ fun t=> ?_
      have hv:=ev_vanish _ (sub (add (mul [k+1] (mul q (syn x h))) (mul [-x,1] (mul q (der (syn x h))))) (mul [-x,1] (mul (syn x h) w))) (Nat.le_refl _) [x] (fun s hs2=>by
        have hsx:s - x≠0:=fun z=>hs2 (List.mem_cons.2 (.inl (by grind)))
        rw [ev_sub,ev_add,ev_mul,ev_mul,ev_mul,ev_mul,ev_mul,ev_mul,ev_lin,show ev s [k+1]=k+1 by show 0*s+(k+1)=k+1;grind]
        have e1:=e s
        rw [hd s,hs s] at e1
        have e2:(s - x)*((k+1)*(ev s q*ev s (syn x h))+(s - x)*(ev s q*ev s (der (syn x h))) - (s - x)*(ev s (syn x h)*ev s w))=0:=by grind
        rcases Rat.mul_eq_zero.1 e2 with z|z
        · exact absurd z hsx
        · exact z) t
      rw [ev_sub,ev_add,ev_mul,ev_mul,ev_mul,ev_mul,ev_mul,ev_mul,ev_lin,show ev t [k+1]=k+1 by show 0*t+(k+1)=k+1;grind] at hv
      grind
    · have hk0 : k ≠ 0 := hc.resolve_right hx
      have e1:=e x
      have e2:k*ev x q*ev x h=0:=by grind
      rcases Rat.mul_eq_zero.1 e2 with z|z
      · rcases Rat.mul_eq_zero.1 z with z | z
        · exact absurd z hk0
        · exact z
      · exact absurd z hx
theorem ev_some {l:List Rat} (hl:cl l=l) (h:l.length≠0):∃t,ev t l≠0:=Classical.byContradiction fun k=>last_ne hl h (ev_coef l (fun t=>Decidable.byContradiction fun z=>k ⟨t,z⟩) _)
theorem sqf_root {p:List Rat} (hp:(cl p).length≠0) (x:Rat):ev x (sqf p)=0↔ev x p=0:=by
  have hc:=cl_cl p
  have hg:=gcd_cl (cl p) (der (cl p))
  have hn:(gcd (cl p) (der (cl p))).length≠0:=gcd_ne (by rw [hc];exact hp)
  obtain ⟨d1,v,hv⟩:=gcd_dvd (cl p) (der (cl p)) hc (der_cl _)
  have hm:=exact_mul hc hg hn d1
  have he:sqf p=mo (dq (cl p) (gcd (cl p) (der (cl p)))):=if_neg hp
  generalize hG:gcd (cl p) (der (cl p))=g at*
  generalize hQ:dq (cl p) g=q at*
  have hqc:cl q=q:=by rw [← hQ];exact dq_cl _ _
  have hpx:ev x p=ev x q*ev x g:=by rw [← ev_cl,←hm,ev_mul]
  have hqn:q.length≠0:=fun z=>by
    rw [List.length_eq_zero_iff.1 z,mul_nil] at hm
    exact hp (by rw [← hm];rfl)
  have hq0:ev x (sqf p)=0↔ev x q=0:=by
    have:=mo_ev hqc x
    rw [he]
    constructor
    · intro z;rw [z] at this;grind
    · intro z
      rw [z] at this
      rcases Rat.mul_eq_zero.1 this with k|k
      · exact k
      · exact absurd k (last_ne hqc hqn)
  rw [hq0,hpx]
  constructor
  · intro z;rw [z];grind
  · intro z
    rcases Rat.mul_eq_zero.1 z with z|z
    · exact z
    · refine root_key x q (sub v (der q)) g.length g 0 (Nat.le_refl _) (by grind) (.inr z) (ev_some hg hn) fun t => ?_
      have e1:ev t (der (cl p))=ev t (der q)*ev t g+ev t q*ev t (der g):=by
        have:der (cl p)=der (mul q g):=by rw [hm]
        rw [this,der_mul,ev_add,ev_mul,ev_mul]
      rw [hv t] at e1
      rw [ev_sub]
      grind
end Go.Proofs.YtbiaimgafknkmaaGreat.Po
namespace Go.Proofs.YtbiaimgafknkmaaGreat.Po
open Go.Proofs.YtbiaimgafknkmaaGreat.Big
def rf (S:List (List Rat)):Nat→Rat→Rat→Rat×Rat
  |0,a,b=>(a,b)
  |k+1,a,b=>if bt S a (mid a b)=1 then rf S k a (mid a b) else rf S k (mid a b) b
def rfz (S:List (List Rat)) (a b:Rat) (k:Int):Rat×Rat:=if a<b then rf S k.toNat a b else (a,b)
def rfe (S:List (List Rat)) (rt:Rat→Bool) (a b:Rat) (k:Int):Int×Rat×Rat:=
  if S.length=0 then (14,0,0) else if k<0∨200<k then (2,0,0) else if b<a then (5,0,0) else if (sgq (a - b)=0∧rt a=false)∨(sgq (a - b)<0∧bt S a b≠1) then (6,0,0)
  else if rt (rfz S a b k).2=true then (0,(rfz S a b k).2,(rfz S a b k).2) else (0,(rfz S a b k).1,(rfz S a b k).2)
def rtp (p:List Rat) (x:Rat):Bool:=decide (ev x p=0)
theorem mid_lt {a b:Rat} (h:a<b):a<mid a b∧mid a b<b:=by
  unfold mid
  have e:Rat.divInt 1 2=1 / 2:=by decide +kernel
  rw [e]
  constructor <;> grind
theorem rf_yes {S:List (List Rat)} {k:Nat} {a b:Rat} (hk:0<k) (h:bt S a (mid a b)=1):rf S k a b=rf S (k - 1) a (mid a b):=by
  obtain ⟨m,rfl⟩:∃m,k=m+1:=⟨k - 1,by omega⟩
  exact if_pos h
theorem rf_no {S:List (List Rat)} {k:Nat} {a b:Rat} (hk:0<k) (h:¬bt S a (mid a b)=1):rf S k a b=rf S (k - 1) (mid a b) b:=by
  obtain ⟨m,rfl⟩:∃m,k=m+1:=⟨k - 1,by omega⟩
  exact if_neg h
theorem sqf_nil (p:List Rat):(sqf p).length=0↔(cl p).length=0:=by
  constructor
  · intro h
    refine Decidable.byContradiction fun k=> ?_
    have he:sqf p=mo (dq (cl p) (gcd (cl p) (der (cl p)))):=if_neg k
    have hn:(gcd (cl p) (der (cl p))).length≠0:=gcd_ne (by rw [cl_cl];exact k)
    have hm:=exact_mul (cl_cl p) (gcd_cl (cl p) (der (cl p))) hn (gcd_dvd (cl p) (der (cl p)) (cl_cl p) (der_cl _)).1
    rw [he,mo_length (dq_cl _ _)] at h
    rw [List.length_eq_zero_iff.1 h,mul_nil] at hm
    exact k (by rw [← hm];rfl)
  · intro h
    unfold sqf
    rw [if_pos h];rfl
theorem sturm_nil (p:List Rat):(sturm p).length=0↔(cl p).length=0:=by
  rw [← sqf_nil]
  unfold sturm
  split
  · rename_i h;exact ⟨fun _=>h,fun _=>rfl⟩
  · rename_i h;exact ⟨fun k=>by simp at k,fun k=>absurd k h⟩
theorem sturm_head {p:List Rat} (h:(sturm p).length≠0):(sturm p).getD 0 []=sqf p:=by
  unfold sturm at*
  split
  · rename_i k;rw [if_pos k] at h;exact absurd rfl h
  · rfl
theorem rfe0 {S:List (List Rat)} {rt:Rat→Bool} {a b:Rat} {k:Int} (h:S.length=0):rfe S rt a b k=(14,0,0):=if_pos h
theorem rfe1 {S:List (List Rat)} {rt:Rat→Bool} {a b:Rat} {k:Int} (h:S.length≠0) (h1:k<0∨200<k):rfe S rt a b k=(2,0,0):=by unfold rfe;rw [if_neg h,if_pos h1]
theorem rfe2 {S:List (List Rat)} {rt:Rat→Bool} {a b:Rat} {k:Int} (h:S.length≠0) (h1:¬(k<0∨200<k)) (h2:b<a):rfe S rt a b k=(5,0,0):=by unfold rfe;rw [if_neg h,if_neg h1,if_pos h2]
theorem rfe3 {S:List (List Rat)} {rt:Rat→Bool} {a b:Rat} {k:Int} (h:S.length≠0) (h1:¬(k<0∨200<k)) (h2:¬b<a) (h3:(sgq (a - b)=0∧rt a=false)∨(sgq (a - b)<0∧bt S a b≠1)):rfe S rt a b k=(6,0,0):=by unfold rfe;rw [if_neg h,if_neg h1,if_neg h2,if_pos h3]
theorem rfe4 {S:List (List Rat)} {rt:Rat→Bool} {a b lo hi:Rat} {k:Int} (h:S.length≠0) (h1:¬(k<0∨200<k)) (h2:¬b<a) (h3:¬((sgq (a - b)=0∧rt a=false)∨(sgq (a - b)<0∧bt S a b≠1))) (h4:rfz S a b k=(lo,hi)) (h5:rt hi=true):rfe S rt a b k=(0,hi,hi):=by unfold rfe;rw [if_neg h,if_neg h1,if_neg h2,if_neg h3,h4,if_pos h5]
theorem rfe5 {S:List (List Rat)} {rt:Rat→Bool} {a b lo hi:Rat} {k:Int} (h:S.length≠0) (h1:¬(k<0∨200<k)) (h2:¬b<a) (h3:¬((sgq (a - b)=0∧rt a=false)∨(sgq (a - b)<0∧bt S a b≠1))) (h4:rfz S a b k=(lo,hi)) (h5:rt hi=false):rfe S rt a b k=(0,lo,hi):=by unfold rfe;rw [if_neg h,if_neg h1,if_neg h2,if_neg h3,h4,if_neg (by rw [h5];exact Bool.false_ne_true)]
theorem rfe_ab {S:List (List Rat)} {rt:Rat→Bool} {a b lo hi:Rat} {k:Int} (h:S.length≠0) (h1:¬(k<0∨200<k)) (h2:¬b<a) (h3:¬((sgq (a - b)=0∧rt a=false)∨(sgq (a - b)<0∧bt S a b≠1))) (h4:rfz S a b k=(lo,hi)) (h5:¬a<b→lo=a∧hi=b) (h6:sgq (a - b)<0→¬rt hi=true):rfe S rt a b k=(0,lo,hi):=by
  by_cases hs:sgq (a - b)<0
  · exact rfe5 h h1 h2 h3 h4 (by have:=h6 hs;cases e:rt hi <;> simp_all)
  · have hg : ¬ 0 < sgq (a - b) := fun e => h2 (lt_sgq.1 e)
    have h0:sgq (a - b)=0:=by omega
    have e0:a=b:=sgq_sub_zero.1 h0
    obtain ⟨e1,e2⟩:=h5 (fun e=>by rw [e0] at e;grind)
    have hr:rt hi=true:=by
      rw [e2,←e0]
      cases e:rt a with
      |true=>rfl
      |false=>exact absurd (.inl ⟨h0,e⟩) h3
    rw [rfe4 h h1 h2 h3 h4 hr,e1,e2,e0]
theorem sgqn {a b:Rat}:sgq (a - b)<0↔a<b:=by
  rw [sgq_lt]
  constructor <;> intro h <;> grind
theorem rfz_run {S:List (List Rat)} {a0 b0 a b:Rat} {k:Int} {i:Nat} (h:(a0<b0→rf S (k.toNat - i) a b=rf S k.toNat a0 b0)∧(¬a0<b0→a=a0∧b=b0)) (hi:a0<b0→k.toNat≤i):rfz S a0 b0 k=(a,b):=by
  unfold rfz
  split
  · rename_i hl
    rw [← h.1 hl,show k.toNat - i=0 by have:=hi hl;omega];rfl
  · rename_i hl
    obtain ⟨e1,e2⟩:=h.2 hl
    rw [e1,e2]
def rsok (p:List Rat):Prop:=sok p∧rgok (der (cl p)).length (cl p) (der (cl p))
theorem rsok_of {p:List Rat} (hl:p.length≤5) (h:cb 20 p):rsok p:=by
  refine ⟨(sok_of hl h).1,?_⟩
  have hP:cb 20 (cl p):=cb_cl h
  have hPl:=cl_le_len p
  have hD:cb 23 (der (cl p)):=cb_der hP (by omega)
  have hDl:=der_len (cl p)
  have hn:(der (cl p)).length≤4:=by omega
  have hpw:=pow_le (N:=6) hn 23
  have h6:(23+1)*(6+1)^4=57624:=by decide
  exact rgok_cb (N:=6) (by decide) _ 23 _ _ (cl_cl p) (der_cl _) (cb_mono hP (by decide)) hD (by omega) (by omega) (by omega)
end Go.Proofs.YtbiaimgafknkmaaGreat.Po
namespace Go.Proofs.YtbiaimgafknkmaaGreat.Sp
open Go
set_option linter.unusedVariables false
set_option maxRecDepth 100000
set_option maxHeartbeats 8000000
theorem zMc {pL:Option Addr} {nL:Nat} {cL:Nat} {L:List (List Rat)} {bl:Nat} {u1:Wd} {v1:Wd} {x1:Rat} (hnL:L.length=nL) (h0:0<nL) (hx:yd x1≤100000000000) (hv:Po.vok L x1):Con yb 69 [.agg #[u1.b,u1.l,v1.b,v1.l],.pointer (some ⟨bl,0,none⟩)] [] [atF bl 0 [.slice pL nL cL],slF (rS rQ) pL cL L,qF true u1 v1 x1] (Y:=Unit) (fun y=>True) (fun y=> .bool (decide (Po.ev x1 (L.getD 0 [])=0))) (fun y=>[]) (fun y=>[]):=by
 refine zl Tryz.func69 rfl rfl rfl (fun c=> ?_)
 show RunC _ _ _ _ _ [(0,.agg #[u1.b,u1.l,v1.b,v1.l]),(1,.pointer (some ⟨bl,0,none⟩))] [] [atF bl 0 [.slice pL nL cL],slF (rS rQ) pL cL L,qF true u1 v1 x1]
 refine zQ 1 rfl (fun hL1=> ?_)
 have hw:=hv (L.getD 0 []) (by rw [List.getD_eq_getElem?_getD,List.getElem?_eq_getElem om];exact List.getElem_mem _)
 refine ze<|za<|zH rfl rfl (zO rfl rfl) (fun b1=> ?_)
 refine e_p (zb rfl)<|zf<|zd<|ze<|zU (OW:=[]) (O:=[boxA b1 28 (cw [u1,v1])]) 100000 mixed (.then .ret) kr<|e_u 0 rfl rfl (zo (j:=0) 0 ty76 rfl rfl rfl rfl)<|d_vl 1 rfl rfl kr kr rfl rfl (zla (x0:=(L.getD 0 [])) 1 0 rfl yf sz23 rfl (by first|rfl|assumption|(simp;done)|omega) rfl rfl (gD (d:=[]) om)) ?_
 rintro ⟨b2,o3,p4,c5⟩ -
 dsimp only [aq,nq,cq]
 refine e_u 2 rfl rfl (zo (j:=0) 0 ty23 rfl rfl rfl rfl)<|e_u 3 rfl rfl (zc 0 ty28 rfl rfl (.t4 .nil))<|zVa (addQe 4 rfl)<|zVa (addQE 2 rfl)<|e_one 4 (zu rfl rfl rfl rfl (.c rfl (.c rfl .n)) ce21 (zGd (p1:=p4) (n1:=(L.getD 0 []).length) (c1:=c5) (l1:=((L.getD 0 []).map some)) (u1:=u1) (v1:=v1) (x1:=(some x1)) (hn1:=by exact List.length_map _) (hm1:=by exact Nat.le_trans hw.1 dd) (hx:=by exact Nat.le_trans hx dd) (hb1:=by intro j;rw [Po.msome];exact Nat.le_trans (hw.2.1 j) dd) (hs:=by intro j;rw [Po.vals_some];exact hw.2.2 j)) (.c (j:=0) rfl (.c (j:=1) rfl .n)) ?_)
 rintro ⟨w36,w47⟩ -
 dsimp only [aq,nq,cq]
 refine e_one 5 (zNa rfl rfl rfl rfl (.c rfl .n) ce65 (zHc (k1:=true) (u1:=w36) (v1:=w47) (q1:=(Po.ev ((some x1).getD 0) (Po.vals ((L.getD 0 []).map some))))) (.c (j:=0) rfl .n) ?_)
 refine e_pv 6 rfl rfl (zia rfl rfl)<|e_pv 7 rfl rfl (zb rfl)<|zT kr<|zd<|zE ?_
 exact zA Tryz.results69 () trivial (zp rfl) (congrArg Value.bool (decide_eq_decide.2 (by rw [Po.vals_some];exact Big.sgq_zero.symm))) (ho:=(.n:PickO _ _ _)) (.n:SelR _ _ _)
end Go.Proofs.YtbiaimgafknkmaaGreat.Sp
