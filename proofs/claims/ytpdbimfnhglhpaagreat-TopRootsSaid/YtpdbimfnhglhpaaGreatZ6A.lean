/- Lemmas that the claim of this folder uses; each states its own conditions. Lines were printed by a program of ours. -/
import Derived.Below
import Derived.Calls
import Derived.Carry
import Derived.ChangeKeysEq
import Derived.Deep.Slices
import Derived.DeepKeys4
import Derived.JoinedCond
import Derived.KernelRfl
import Derived.Laws.AppendOwn
import Derived.Laws.AppendOwnNone
import Derived.Laws.CopyRow
import Derived.Laws.Entries
import Derived.Laws.MakeOwn
import Derived.Lib.AppendZeros
import Derived.Maps.Keyed
import Derived.Maps.RangeRun
import Derived.OpenShut
import Derived.Orders
import Derived.OrdersHeld
import Derived.OrdersIn
import Derived.OwnWalkIn
import Derived.ProofKit
import Derived.RangeFuncCalls
import Derived.RangeFuncKeeps
import Derived.Scope
import Derived.Tactics
import Derived.Test.YtpdbimfnhglhpaaGreatProg
import Derived.WalkLawsBesides
import Derived.WideKeyPair
set_option linter.unusedVariables false
set_option linter.unusedSimpArgs false
set_option linter.unusedSectionVars false
open Go.Value renaming int → yW, pointer → yY
open Go.IntKind renaming i64 → yX
open List renaming getElem?_eq_some_iff → yb, getElem?_append → ye, take_of_length_le → yg, getElem?_eq_getElem → yh, length_append → yk, length_take → ym, length_cons → yn, length_eq_zero_iff → yo, getElem?_take → yq, getElem?_drop → yr, size_toArray → yv, append_assoc → yw, map_toArray → yx, getD → yB, replicate → yC, getElem?_eq_none → yH, length_drop → yI, eq_nil_of_length_eq_zero → yJ, flatMap_cons → yO, getElem?_map → yP, cons_append → yS
open Array renaming getElem?_eq_some_iff → yc, getD_eq_getD_getElem? → yd, replicate → yp, getElem?_setIfInBounds → yy, getElem?_append → yG, toArray_toList → yK, length_toList → yL
open Nat renaming ble → yf, beq → yj, succ_mul → yt, mul_le_mul_right → yu, le_refl → yz, le_of_ble_eq_true → yA, le_trans → yE, eq_of_beq_eq_true → yF, beq_refl → yM, add_assoc → yQ, add_mul → yR, zero_add → yU, lt_or_ge → yV
open Int renaming mul_le_mul_of_nonneg_left → yi, mul_add → yl, mul_assoc → yD, mul_comm → yN
open Option renaming map_some → yT
open Go.Proofs.Tryz renaming prog → ya
namespace Go.Proofs.YtpdbimfnhglhpaaGreat
theorem Oo {p:Prop} (h:p:=by omega):p:=h
theorem Od {p:Prop} (h:p:=by decide):p:=h
theorem Ok {p:Prop} (h:p:=by kernel_rfl):p:=h
theorem Og {p:Prop} (h:p:=by grind):p:=h
theorem Oz {p:Prop} (h:p:=by decide +kernel):p:=h
namespace Sp
open Go
abbrev Hp:=Nat→Option Obj
def Hp.emp:Hp:=fun _=>none
def Hp.single (b:Nat) (o:Obj):Hp:=fun r=>if r=b then some o else none
def Hp.join (h k:Hp):Hp:=fun r=>match h r with|some o=>some o|none=>k r
def Hp.le (h k:Hp):Prop:=∀b o,h b=some o→k b=some o
def Hp.apart (h k:Hp):Prop:=∀b,h b=none∨k b=none
def Has (w:World) (h:Hp):Prop:=∀b o,h b=some o→w.heap[b]? =some o
theorem Hp.le_refl (h:Hp):h.le h:=fun _ _ x=>x
theorem Hp.le_trans {h k l:Hp} (a:h.le k) (b:k.le l):h.le l:=fun _ _ x=>b _ _ (a _ _ x)
theorem Hp.le_joinL (h k:Hp):h.le (h.join k):=fun b o e=>by simp [Hp.join,e]
theorem Hp.le_joinR {h k:Hp} (a:h.apart k):k.le (h.join k):=fun b o e=>by
  rcases a b with a|a
  · simp [Hp.join,a,e]
  · rw [a] at e;cases e
theorem Hp.join_le {h k l:Hp} (a:h.le l) (b:k.le l):(h.join k).le l:=fun r o e=>by
  unfold Hp.join at e
  cases hr:h r with
  |some x=>rw [hr] at e;exact a _ _ (hr.trans e)
  |none=>rw [hr] at e;exact b _ _ e
theorem Hp.apart_symm {h k:Hp} (a:h.apart k):k.apart h:=fun b=>(a b).symm
theorem Hp.join_none {h k:Hp} {b:Nat}:h.join k b=none↔h b=none∧k b=none:=by
  unfold Hp.join;cases h b <;> simp
theorem Hp.apart_join {h k l:Hp}:(h.join k).apart l↔h.apart l∧k.apart l:=by
  constructor
  · intro a
    exact ⟨fun b=>(a b).imp (fun x=>(Hp.join_none.1 x).1) id,fun b=>(a b).imp (fun x=>(Hp.join_none.1 x).2) id⟩
  · rintro ⟨a, b⟩ r
    rcases a r with a|a
    · rcases b r with b | b
      · exact .inl (Hp.join_none.2 ⟨a,b⟩)
      · exact .inr b
    · exact .inr a
theorem Hp.apart_joinR {h k l:Hp}:l.apart (h.join k)↔l.apart h∧l.apart k:=
  ⟨fun a=>(Hp.apart_join.1 (Hp.apart_symm a)).imp Hp.apart_symm Hp.apart_symm,fun a=>Hp.apart_symm (Hp.apart_join.2 ⟨Hp.apart_symm a.1,Hp.apart_symm a.2⟩)⟩
theorem Hp.join_emp (h:Hp):h.join Hp.emp=h:=by funext b;unfold Hp.join Hp.emp;cases h b <;> rfl
theorem Hp.emp_join (h:Hp):Hp.emp.join h=h:=rfl
theorem Hp.emp_apart (h:Hp):Hp.emp.apart h:=fun _=> .inl rfl
theorem Hp.join_assoc (h k l:Hp):(h.join k).join l=h.join (k.join l):=by funext b;unfold Hp.join;cases h b <;> rfl
theorem Hp.join_comm {h k:Hp} (a:h.apart k):h.join k=k.join h:=by
  funext b;unfold Hp.join
  rcases a b with e|e <;> rw [e]
  · cases k b <;> rfl
  · cases h b <;> rfl
theorem Hp.single_self (b:Nat) (o:Obj):Hp.single b o b=some o:=by simp [Hp.single]
theorem Hp.apart_of_le {h h' k:Hp} (l:h.le h') (a:h'.apart k):h.apart k:=fun b=>by
  rcases a b with a|a
  · refine .inl ?_
    cases e:h b with
    |none=>rfl
    |some o=>rw [l _ _ e] at a;cases a
  · exact .inr a
theorem Has.mono {w:World} {h k:Hp} (a:Has w k) (l:h.le k):Has w h:=fun _ _ e=>a _ _ (l _ _ e)
theorem Has.join {w:World} {h k:Hp} (a:Has w h) (b:Has w k):Has w (h.join k):=fun r o e=>by
  unfold Hp.join at e
  cases hr:h r with
  |some x=>rw [hr] at e;exact a _ _ (hr.trans e)
  |none=>rw [hr] at e;exact b _ _ e
theorem Has.lt {w:World} {h:Hp} (a:Has w h) {b:Nat} (hb:h b≠none):b<w.heap.size:=by
  cases e:h b with
  |none=>exact absurd e hb
  |some o=>exact (yc.1 (a _ _ e)).1
structure As where
  on:Hp→Hp→Prop
  mono:∀g g' h,g.le g'→on g h→on g' h
structure Fa where
  on:Hp→Prop
  mono:∀g g',g.le g'→on g→on g'
def vG (g:Hp):List As→Hp→Prop
  |[],h=>h=Hp.emp
  |A :: l,h=>∃h1 h2,h1.apart h2∧h=h1.join h2∧A.on g h1∧vG g l h2
def Holds (g:Hp):List Fa→Prop
  |[]=>True
  |r :: l=>r.on g∧Holds g l
theorem vG.mono {g g':Hp} (hg:g.le g'):∀{O:List As} {h:Hp},vG g O h→vG g' O h
  |[],_,e=>e
  |A :: _,_,⟨h1,h2,a,e,x,y⟩=>⟨h1,h2,a,e,A.mono _ _ _ hg x,vG.mono hg y⟩
theorem Holds.mono {g g':Hp} (hg:g.le g'):∀{R:List Fa},Holds g R→Holds g' R
  |[],_=>trivial
  |r :: _,⟨x,y⟩=>⟨r.mono _ _ hg x,Holds.mono hg y⟩
theorem Holds.get {g:Hp}:∀{R:List Fa} (i:Nat) {r:Fa},R[i]? =some r→Holds g R→r.on g
  |[],_,_,e,_=>by simp at e
  |_ :: _,0,_,e,h=>by simp at e;subst e;exact h.1
  |_ :: _,i+1,_,e,h=>Holds.get i (by simpa using e) h.2
theorem Holds.app {g:Hp}:∀{R R':List Fa},Holds g R→Holds g R'→Holds g (R++R')
  |[],_,_,h=>h
  |_ :: _,_,⟨x,y⟩,h=>⟨x,Holds.app y h⟩
theorem vG.app {g:Hp}:∀{O O':List As} {h h':Hp},vG g O h→vG g O' h'→h.apart h'→vG g (O++O') (h.join h')
  |[],_,_,_,e,x,_=>by cases e;exact x
  |_ :: _,_,_,h',⟨h1,h2,a,e,x,y⟩,z,ap=>by
    subst e
    have ap':=Hp.apart_join.1 ap
    exact ⟨h1,h2.join h',Hp.apart_joinR.2 ⟨a,ap'.1⟩,Hp.join_assoc _ _ _,x,vG.app y z ap'.2⟩
theorem vG.split {g:Hp}:∀{O O':List As} {h:Hp},vG g (O++O') h→∃h1 h2,h1.apart h2∧h=h1.join h2∧vG g O h1∧vG g O' h2
  |[],_,h,x=>⟨Hp.emp,h,Hp.emp_apart h,rfl,rfl,x⟩
  |_ :: _,_,_,⟨h1,h2,a,e,x,y⟩=>by
    obtain ⟨k1,k2,b,e2,y1,y2⟩:=vG.split y
    subst e2
    have a':=Hp.apart_joinR.1 a
    exact ⟨h1.join k1,k2,Hp.apart_join.2 ⟨a'.2,b⟩,by rw [e,Hp.join_assoc],⟨h1,k1,a'.1,rfl,x,y1⟩,y2⟩
theorem vG.pick {g:Hp}:∀{O:List As} (i:Nat) {A:As} {h:Hp},O[i]? =some A→vG g O h→
    ∃h1 h2,h1.apart h2∧h=h1.join h2∧A.on g h1∧vG g (O.eraseIdx i) h2∧∀A' h1',A'.on g h1'→h1'.apart h2→vG g (O.set i A') (h1'.join h2)
  |[],_,_,_,e,_=>by simp at e
  |_ :: _,0,_,_,e,⟨h1,h2,a,eh,x,y⟩=>by
    simp at e;subst e
    exact ⟨h1,h2,a,eh,x,y,fun A' h1' hx ha=>⟨h1',h2,ha,rfl,hx,y⟩⟩
  |B :: _,i+1,_,_,e,⟨h1,h2,a,eh,x,y⟩=>by
    obtain ⟨k1,k2,b,e2,z1,z2,z3⟩:=vG.pick i (by simpa using e) y
    subst e2;subst eh
    have a':=Hp.apart_joinR.1 a
    refine ⟨k1,h1.join k2,Hp.apart_joinR.2 ⟨Hp.apart_symm a'.1,b⟩,?_,z1,⟨h1,k2,a'.2,rfl,x,z2⟩,?_⟩
    · rw [← Hp.join_assoc,←Hp.join_assoc,Hp.join_comm a'.1]
    · intro A' h1' hx ha
      have ha':=Hp.apart_joinR.1 ha
      refine ⟨h1,h1'.join k2,Hp.apart_joinR.2 ⟨Hp.apart_symm ha'.1,a'.2⟩,?_,x,z3 A' h1' hx ha'.2⟩
      rw [← Hp.join_assoc,←Hp.join_assoc,Hp.join_comm ha'.1]
structure Cx where
  W:World
  D:Hp
  G:Hp
structure Kept (c:Cx) (w:World):Prop where
  os:w.os=c.W.os
  tape:w.tape=c.W.tape
  output:w.output=c.W.output
  size:c.W.heap.size≤w.heap.size
  block:∀b,b<c.W.heap.size→c.D b=none→w.heap[b]? =c.W.heap[b]?
structure MemAt (c:Cx) (w:World) (O:List As) (R:List Fa) (h g:Hp):Prop where
  sep:vG g O h
  holds:Holds g R
  apart:h.apart g
  hasH:Has w h
  hasG:Has w g
  le:c.G.le g
  newG:∀b,c.G b=none→g b≠none→c.W.heap.size≤b∨c.D b≠none
  newH:∀b,c.D b=none→h b≠none→c.W.heap.size≤b
  kept:Kept c w
def vR (c:Cx) (w:World) (O:List As) (R:List Fa):Prop:=∃h g,MemAt c w O R h g
theorem vR.start {w:World} {O:List As} {R:List Fa} {h g:Hp} (hs:vG g O h) (hr:Holds g R) (ha:h.apart g) (hh:Has w h) (hg:Has w g):MemAt ⟨w,h,g⟩ w O R h g:=
  ⟨hs,hr,ha,hh,hg,Hp.le_refl _,fun b e n=>absurd e n,fun b e n=>absurd e n,⟨rfl,rfl,rfl,yz _,fun _ _ _=>rfl⟩⟩
theorem MemAt.frame {c:Cx} {w:World} {O F:List As} {R:List Fa} {ho hf g:Hp} (hs:vG g O ho) (hsf:vG g F hf) (ha:ho.apart hf) (m:MemAt c w (O++F) R (ho.join hf) g)
    {w':World} {O':List As} {R':List Fa} (h:vR ⟨w,ho,g⟩ w' O' R'):vR c w' (O'++F) (R'++R):=by
  obtain ⟨h',g',m'⟩:=h
  have hfw:Has w' hf:=fun b o e=>by
    have hw:=m.hasH b o (Hp.le_joinR ha b o e)
    have hlt:=(yc.1 hw).1
    rw [m'.kept.block b hlt (by rcases ha b with x|x;exact x;rw [x] at e;cases e)]
    exact hw
  have hfg:hf.apart g':=fun b=>by
    cases e:hf b with
    |none=>exact .inl rfl
    |some o=>
      refine .inr ?_
      cases e':g' b with
      |none=>rfl
      |some o'=>
        have hw:=m.hasH b o (Hp.le_joinR ha b o e)
        have hlt:=(yc.1 hw).1
        have hgn:g b=none:=by
          rcases m.apart b with x|x
          · rw [Hp.le_joinR ha b o e] at x;cases x
          · exact x
        rcases m'.newG b hgn (by rw [e'];simp) with x|x
        · simp only at x;omega
        · rcases ha b with y | y
          · exact absurd y x
          · rw [y] at e;cases e
  have hfh:h'.apart hf:=fun b=>by
    cases e:hf b with
    |none=>exact .inr rfl
    |some o=>
      refine .inl ?_
      cases e':h' b with
      |none=>rfl
      |some o'=>
        have hw:=m.hasH b o (Hp.le_joinR ha b o e)
        have hlt:=(yc.1 hw).1
        have hdn:ho b=none:=by
          rcases ha b with x|x
          · exact x
          · rw [x] at e;cases e
        have:=m'.newH b hdn (by rw [e'];simp)
        simp only at this
        omega
  refine ⟨h'.join hf,g',vG.app m'.sep (vG.mono m'.le hsf) hfh,Holds.app m'.holds (Holds.mono m'.le m.holds),Hp.apart_join.2 ⟨m'.apart,hfg⟩,Has.join m'.hasH hfw,m'.hasG,Hp.le_trans m.le m'.le,?_,?_,?_⟩
  · intro b e n
    by_cases hg:g b=none
    · rcases m'.newG b hg n with x | x
      · exact .inl (yE m.kept.size x)
      · have hj : (ho.join hf) b ≠ none := fun y => x (Hp.join_none.1 y).1
        by_cases hd:c.D b=none
        · exact .inl (m.newH b hd hj)
        · exact .inr hd
    · exact m.newG b e hg
  · intro b e n
    by_cases hh:(ho.join hf) b=none
    · have hj := Hp.join_none.1 hh
      have:h' b≠none:=fun x=>n (Hp.join_none.2 ⟨x,hj.2⟩)
      exact yE m.kept.size (m'.newH b hj.1 this)
    · exact m.newH b e hh
  · refine ⟨m'.kept.os.trans m.kept.os, m'.kept.tape.trans m.kept.tape, m'.kept.output.trans m.kept.output, yE m.kept.size m'.kept.size, fun b hb e => ?_⟩
    have hno:ho b=none:=by
      cases x:ho b with
      |none=>rfl
      |some o=>
        have:=m.newH b e (by rw [Hp.le_joinL _ _ _ _ x];simp)
        omega
    rw [m'.kept.block b (Nat.lt_of_lt_of_le hb m.kept.size) hno]
    exact m.kept.block b hb e
theorem vR.framed {c:Cx} {w:World} {O F:List As} {R:List Fa} (m:vR c w (O++F) R):
    ∃h g,vG g O h∧Holds g R∧h.apart g∧Has w h∧Has w g∧∀w' O' R',vR ⟨w,h,g⟩ w' O' R'→vR c w' (O'++F) (R'++R):=by
  obtain ⟨h,g,m⟩:=m
  obtain ⟨ho,hf,ha,e,s1,s2⟩:=vG.split m.sep
  subst e
  exact ⟨ho,g,s1,m.holds,(Hp.apart_join.1 m.apart).1,Has.mono m.hasH (Hp.le_joinL _ _),m.hasG,fun w' O' R' x=>MemAt.frame s1 s2 ha m x⟩
theorem vR.weaken {c:Cx} {w:World} {O O':List As} {R R':List Fa} (m:vR c w O R)
    (h:∀h g,vG g O h→Holds g R→h.apart g→∃h' g',vG g' O' h'∧Holds g' R'∧h'.le h∧g.le g'∧h'.apart g'∧∀b o,g' b=some o→g b=some o∨h b=some o):vR c w O' R':=by
  obtain ⟨hh,g,m⟩:=m
  obtain ⟨h',g',s,r,l1,l2,ap,k⟩:=h hh g m.sep m.holds m.apart
  refine ⟨h',g',s,r,ap,Has.mono m.hasH l1,fun b o e=> ?_,Hp.le_trans m.le l2,?_,?_,m.kept⟩
  · rcases k b o e with x | x
    · exact m.hasG _ _ x
    · exact m.hasH _ _ x
  · intro b e n
    cases x:g' b with
    |none=>exact absurd x n
    |some o=>
      rcases k b o x with y|y
      · exact m.newG b e (by rw [y];simp)
      · by_cases d : c.D b = none
        · exact .inl (m.newH b d (by rw [y];simp))
        · exact .inr d
  · intro b e n
    refine m.newH b e (fun x=>n ?_)
    cases y:h' b with
    |none=>rfl
    |some o=>rw [l1 _ _ y] at x;cases x
end Sp
namespace Sp
open Go
abbrev Fm:=List (Nat×Value)
def lk:Fm→Nat→Option Value
  |[],_=>none
  |(k,v) :: m,t=>match yj k t with
    |true=>some v
    |false=>lk m t
def vz (m:Fm):Operand→Option Value
  | .tmp t=>lk m t
  | .const v=>some v
  | .global g=>some (.pointer (some ⟨g,0,none⟩))
  | .func f=>some (.func (.func f) #[] #[])
structure Sz where
  sz:Nat
  ds:List Deferred
structure Fr (n:Sz) (a:Act) (m:Fm):Prop where
  defers:a.defers=n.ds
  size:a.tmps.size=n.sz
  tmp:∀t v,lk m t=some v→a.tmps[t]? =some v
theorem Fr.ev {n:Sz} {a:Act} {m:Fm} (h:Fr n a m) {x:Operand} {v:Value} (e:vz m x=some v):a.eval x=v:=by
  cases x with
  |tmp t=>simp only [Act.eval];have:=h.tmp t v e;simp [yd,this]
  |const c=>simp only [vz,Option.some.injEq] at e;exact e
  |global g=>simp only [vz,Option.some.injEq] at e;exact e
  |func f=>simp only [vz,Option.some.injEq] at e;exact e
def KB (m:Fm):Option Tmp→Value→Fm
  |some t,v=>(t,v) :: m
  |none,_=>m
def okT (n:Sz):Option Tmp→Bool
  |some t=>yf (t+1) n.sz
  |none=>true
theorem Fr.put {n:Sz} {a:Act} {m:Fm} (h:Fr n a m) {d:Option Tmp} (hd:okT n d=true) (v:Value):Fr n (a.put d v) (KB m d v):=by
  cases d with
  |none=>exact h
  |some t=>
    have ht:t<n.sz:=Nat.lt_of_succ_le (yA hd)
    refine ⟨h.defers,by simp [Act.put,h.size],fun s u e=> ?_⟩
    simp only [KB,lk] at e
    simp only [Act.put,yy,h.size]
    split at e
    · rename_i hb
      have:t=s:=yF hb
      subst this
      simp [ht];simpa using e
    · rename_i hb
      have:t≠s:=fun x=>by subst x;simp [yM] at hb
      rw [if_neg this]
      exact h.tmp s u e
def vQ:Fm→Fm→Prop
  |[],_=>True
  |(t,v) :: l,m=>lk m t=some v∧vQ l m
theorem vQ.lk {m:Fm}:∀{l:Fm},vQ l m→∀t v,lk l t=some v→Sp.lk m t=some v
  |[],_,_,_,e=>by cases e
  |(k,u) :: l,⟨x,y⟩,t,v,e=>by
    simp only [Sp.lk] at e
    split at e
    · rename_i hb
      have:k=t:=yF hb
      subst this;cases e;exact x
    · exact vQ.lk y t v e
theorem Fr.sub {n:Sz} {a:Act} {m l:Fm} (h:Fr n a m) (s:vQ l m):Fr n a l:=⟨h.defers,h.size,fun t v e=>h.tmp t v (s.lk t v e)⟩
def V2:List Nat→List As→Option (List As)
  |[],_=>some []
  |i :: is,O=>match O[i]? with
    |some A=>match V2 is (O.eraseIdx i) with
      |some l=>some (A :: l)
      |none=>none
    |none=>none
theorem vG.picks {g:Hp}:∀{is:List Nat} {O O':List As} {h:Hp},V2 is O=some O'→vG g O h→∃h',h'.le h∧vG g O' h'
  |[],_,_,h,e,_=>by cases e;exact ⟨Hp.emp,(fun _ _ x=>by cases x),rfl⟩
  |i :: is,O,O',h,e,s=>by
    simp only [V2] at e
    split at e
    · rename_i A hA
      split at e
      · rename_i l hl
        cases e
        obtain ⟨h1,h2,a,eh,x,y,_⟩:=vG.pick i hA s
        obtain ⟨h',l',s'⟩:=vG.picks hl y
        subst eh
        refine ⟨h1.join h',Hp.join_le (Hp.le_joinL _ _) (Hp.le_trans l' (Hp.le_joinR a)),h1,h',Hp.apart_symm (Hp.apart_of_le l' (Hp.apart_symm a)),rfl,x,s'⟩
      · cases e
    · cases e
def q9:List Nat→List Fa→List Fa→Prop
  |[],_,[]=>True
  |j :: js,R,r :: R'=>R[j]? =some r∧q9 js R R'
  |_,_,_=>False
theorem q9.holds {g:Hp}:∀{js:List Nat} {R R':List Fa},q9 js R R'→Holds g R→Holds g R'
  |[],_,[],_,_=>trivial
  |j :: js,_,_ :: _,⟨x,y⟩,h=>⟨Holds.get j x h,q9.holds y h⟩
theorem vR.sel {c:Cx} {w:World} {O O':List As} {R R':List Fa} (m:vR c w O R) {is js:List Nat} (ho:V2 is O=some O') (hr:q9 js R R'):vR c w O' R':=
  m.weaken fun h g s r a=>by
    obtain ⟨h',l,s'⟩:=vG.picks ho s
    exact ⟨h',g,s',q9.holds hr r,l,Hp.le_refl _,Hp.apart_of_le l a,fun _ _ e=> .inl e⟩
section
abbrev FR (ro:Option Nat):Fence:={Fence.wide with round:=ro}
variable {P : Program} {Q : Exit → Act → World → Prop} {c : Cx} {n : Sz} {ro : Option Nat}
def jh (c:Cx) (n:Sz) (Q:Exit→Act→World→Prop) (e:Exit) (m:Fm) (O:List As) (R:List Fa):Prop:=∀a w,Fr n a m→vR c w O R→Q e a w
def vm {ro:Option Nat} (P:Program) (Q:Exit→Act→World→Prop) (c:Cx) (n:Sz) (code:Code) (m:Fm) (O:List As) (R:List Fa):Prop:=∀a w,Fr n a m→vR c w O R→code.wpIn (FR ro) 0 P Q a w
def ve {ro:Option Nat} (P:Program) (ops:Array Oper) (Q:Exit→Act→World→Prop) (c:Cx) (n:Sz) (l:List Oper) (m:Fm) (O:List As) (R:List Fa):Prop:=∀a w,Fr n a m→vR c w O R→wpListIn (FR ro) 0 P ops Q l a w
variable {m m' : Fm} {O O' : List As} {R R' : List Fa}
theorem qe {x y:Code} (h:vm (ro:=ro) P (Exit.then (y.wpIn (FR ro) 0 P Q) Q) c n x m O R):vm (ro:=ro) P Q c n (.seq x y) m O R:=fun a w f mm=>wpIn_seq (h a w f mm)
theorem zi {y:Code} (h:vm (ro:=ro) P Q c n y m O R):jh c n (Exit.then (y.wpIn (FR ro) 0 P Q) Q) .normal m O R:=h
theorem zD {K:Act→World→Prop} (h:jh c n Q .ret m O R):jh c n (Exit.then K Q) .ret m O R:=h
theorem ze {K:Act→World→Prop} {id:Nat} (h:jh c n Q (.exit id) m O R):jh c n (Exit.then K Q) (.exit id) m O R:=h
theorem qN (h:jh c n Q .normal m O R):vm (ro:=ro) P Q c n .skip m O R:=fun a w f mm=>wpIn_skip (h a w f mm)
theorem vv (h:jh c n Q .ret m O R):vm (ro:=ro) P Q c n .ret m O R:=fun a w f mm=>wpIn_ret (h a w f mm)
theorem z7 {id:Nat} (h:jh c n Q (.exit id) m O R):vm (ro:=ro) P Q c n (.exit id) m O R:=fun a w f mm=>wpIn_exit (h a w f mm)
theorem zk {id:Nat} {x:Code} (h:vm (ro:=ro) P (Exit.inBlock id Q) c n x m O R):vm (ro:=ro) P Q c n (.block id x) m O R:=fun a w f mm=>wpIn_block (h a w f mm)
theorem zG {id:Nat} (h:jh c n Q .normal m O R):jh c n (Exit.inBlock id Q) .normal m O R:=h
theorem qz {id:Nat} (h:jh c n Q .ret m O R):jh c n (Exit.inBlock id Q) .ret m O R:=h
theorem zn {id:Nat} (h:jh c n Q .normal m O R):jh c n (Exit.inBlock id Q) (.exit id) m O R:=fun a w f mm=>by
  simp only [Exit.inBlock,if_true];exact h a w f mm
theorem zef {id id':Nat} (hne:yj id' id=false) (h:jh c n Q (.exit id') m O R):jh c n (Exit.inBlock id Q) (.exit id') m O R:=fun a w f mm=>by
  have:id'≠id:=fun e=>by subst e;simp [yM] at hne
  simp only [Exit.inBlock,if_neg this];exact h a w f mm
theorem zx {x:Operand} {p:Prop} [Decidable p] {y z:Code} (e:vz m x=some (.bool (decide p))) (t:p→vm (ro:=ro) P Q c n y m O R) (f:¬p→vm (ro:=ro) P Q c n z m O R):
    vm (ro:=ro) P Q c n (.cond x y z) m O R:=fun a w fr mm=>by
  have he:=fr.ev e
  by_cases hp:p
  · exact wpIn_cond_true (by rw [he];simp [hp]) (t hp a w fr mm)
  · exact wpIn_cond_false (by rw [he];simp [hp]) (f hp a w fr mm)
theorem ZN {x:Operand} {b:Bool} {y z:Code} (e:vz m x=some (.bool b)) (t:b=true→vm (ro:=ro) P Q c n y m O R) (f:b=false→vm (ro:=ro) P Q c n z m O R):
    vm (ro:=ro) P Q c n (.cond x y z) m O R:=fun a w fr mm=>by
  have he:=fr.ev e
  cases b
  · exact wpIn_cond_false he (f rfl a w fr mm)
  · exact wpIn_cond_true he (t rfl a w fr mm)
theorem zv {id:Nat} {l:List Oper} (h:ve (ro:=ro) P l.toArray Q c n l m O R):vm (ro:=ro) P Q c n (.region id l.toArray false) m O R:=fun a w f mm=>wpIn_region_lit (h a w f mm)
theorem jq {ops:Array Oper} (h:jh c n Q .normal m O R):ve (ro:=ro) P ops Q c n [] m O R:=fun a w f mm=>wpListIn_nil (h a w f mm)
def zjc {X:Type} (c:Cx) (n:Sz) (φ:X→Prop) (M:X→Fm) (OO:X→List As) (RR:X→List Fa):Act→World→Prop:=fun a w=>∃x,φ x∧Fr n a (M x)∧vR c w (OO x) (RR x)
theorem ji {X:Type} (φ:X→Prop) (M:X→Fm) (OO:X→List As) (RR:X→List Fa) {x y:Code}
    (h:vm (ro:=ro) P (Exit.then (zjc c n φ M OO RR) Q) c n x m O R) (k:∀x,φ x→vm (ro:=ro) P Q c n y (M x) (OO x) (RR x)):vm (ro:=ro) P Q c n (.seq x y) m O R:=
  fun a w f mm=>wpIn_seq (wpIn_mono (h a w f mm) (fun e a w q=>by
    cases e <;> first|exact q|(obtain ⟨x,hx,hf,hm⟩:=q;exact k x hx a w hf hm)))
theorem qL {X:Type} {φ:X→Prop} {M:X→Fm} {OO:X→List As} {RR:X→List Fa} (x:X) (hx:φ x) {is js:List Nat} (hm:vQ (M x) m) (ho:V2 is O=some (OO x)) (hr:q9 js R (RR x)):
    jh c n (Exit.then (zjc c n φ M OO RR) Q) .normal m O R:=fun a w f mm=>⟨x,hx,f.sub hm,mm.sel ho hr⟩
def zlQ {X:Type} (c:Cx) (n:Sz) (φ:X→Prop) (M:X→Fm) (OO:X→List As) (RR:X→List Fa) (μ:X→Nat) (k:Nat):Act→World→Prop:=fun a w=>∃x,μ x<k∧φ x∧Fr n a (M x)∧vR c w (OO x) (RR x)
theorem zjd {X:Type} (φ:X→Prop) (M:X→Fm) (OO:X→List As) (RR:X→List Fa) (μ:X→Nat) {body:Code} (x:X) (hx:φ x)
    (hm:vQ (M x) m) (hmem:∀w,vR c w O R→vR c w (OO x) (RR x))
    (round:∀x,φ x→vm (ro:=ro) P (Exit.then (zlQ c n φ M OO RR μ (μ x)) Q) c n body (M x) (OO x) (RR x)):vm (ro:=ro) P Q c n (.loop body) m O R:=by
  intro a w f mm b kk cs hro hb hr
  have key:∀k x,μ x=k→φ x→∀a w,Fr n a (M x)→vR c w (OO x) (RR x)→
      ∃e a' w',Q e a' w'∧ArrivesIn (Machine.fenced P (FR ro)) P (lone (b.atR a (.code body :: .inLoop body :: kk)) cs w) b kk cs e a' w':=by
    intro k
    induction k using Nat.strongRecOn with
    |_ k ih=>
      intro x hk hx a w f mm
      obtain ⟨e,a₁,w₁,hq,harr⟩:=round x hx a w f mm b (.inLoop body :: kk) cs hro hb hr
      cases e with
      |normal=>
        obtain ⟨x',hlt,hx',f',mm'⟩:=hq
        obtain ⟨e₂,a₂,w₂,hq₂,harr₂⟩:=ih (μ x') (hk ▸ hlt) x' rfl hx' a₁ w₁ f' mm'
        exact ⟨e₂,a₂,w₂,hq₂,.of_steps (StepsIn.trans harr (.one (fenced_calm hb hr rfl) stepR_inLoop)) harr₂⟩
      |exit id=>exact ⟨_,a₁,w₁,hq,.pass (x:= .inLoop body) rfl (fun _ _=> .inl (by simp)) harr⟩
      |goto l=>exact ⟨_,a₁,w₁,hq,.pass (x:= .inLoop body) rfl (fun _ _=> .inl (by simp)) harr⟩
      |ret=>exact ⟨_,a₁,w₁,hq,.pass (x:= .inLoop body) rfl (fun _ _=> .inl (by simp)) harr⟩
      |panic ch=>exact ⟨_,a₁,w₁,hq,.pass (x:= .inLoop body) rfl (fun _ _=> .inl (by simp)) harr⟩
      |outgrown=>exact ⟨_,a₁,w₁,hq,.pass (x:= .inLoop body) rfl (fun _ _=> .inl (by simp)) harr⟩
  obtain ⟨e,a',w',hq,harr⟩:=key _ x rfl hx a w (f.sub hm) (hmem w mm)
  exact ⟨e,a',w',hq,.of_steps (.one (fenced_calm hb hr rfl) stepR_loop) harr⟩
theorem Qr {X:Type} (φ:X→Prop) (M:X→Fm) (OO:X→List As) (RR:X→List Fa) (μ:X→Nat) {body:Code} (x:X) (hx:φ x) {is js:List Nat}
    (hm:vQ (M x) m) (ho:V2 is O=some (OO x)) (hsel:q9 js R (RR x))
    (round:∀x,φ x→vm (ro:=ro) P (Exit.then (zlQ c n φ M OO RR μ (μ x)) Q) c n body (M x) (OO x) (RR x)):vm (ro:=ro) P Q c n (.loop body) m O R:=
  zjd φ M OO RR μ x hx hm (fun w mm=>mm.sel ho hsel) round
theorem zpj {X:Type} {φ:X→Prop} {M:X→Fm} {OO:X→List As} {RR:X→List Fa} {μ:X→Nat} {k:Nat} (x:X) (hx:φ x) (hk:μ x<k)
    (hm:vQ (M x) m) (hmem:∀w,vR c w O R→vR c w (OO x) (RR x)):jh c n (Exit.then (zlQ c n φ M OO RR μ k) Q) .normal m O R:=
  fun a w f mm=>⟨x,hk,hx,f.sub hm,hmem w mm⟩
theorem zW {X:Type} {φ:X→Prop} {M:X→Fm} {OO:X→List As} {RR:X→List Fa} {μ:X→Nat} {k:Nat} (x:X) (hx:φ x) (hk:μ x<k) {is js:List Nat}
    (hm:vQ (M x) m) (ho:V2 is O=some (OO x)) (hr:q9 js R (RR x)):jh c n (Exit.then (zlQ c n φ M OO RR μ k) Q) .normal m O R:=
  fun a w f mm=>⟨x,hk,hx,f.sub hm,mm.sel ho hr⟩
def jI (P:Program) (f:Nat) (args:List Value) (O:List As) (R:List Fa) {Y:Type} (φ:Y→Prop) (val:Y→Value) (O':Y→List As) (R':Y→List Fa):Prop:=
  ∀w h g,vG g O h→Holds g R→h.apart g→Has w h→Has w g→Calls P f args.toArray w (fun e w'=>∃y,e= .returned (val y)∧φ y∧vR ⟨w,h,g⟩ w' (O' y) (R' y))
def Ret {Y:Type} (P:Program) (fn:Func) (c:Cx) (φ:Y→Prop) (val:Y→Value) (O':Y→List As) (R':Y→List Fa):Exit→Act→World→Prop:=
  bodyPost P fn (fun e w'=>∃y,e= .returned (val y)∧φ y∧vR c w' (O' y) (R' y))
def zkz:Nat→List Value→Fm
  |_,[]=>[]
  |k,v :: l=>(k,v) :: zkz (k+1) l
theorem zbM:∀(l:List Value) (k t:Nat) (v:Value),lk (zkz k l) t=some v→k≤t∧l[t - k]? =some v
  |[],_,_,_,e=>by cases e
  |u :: l,k,t,v,e=>by
    simp only [zkz,lk] at e
    split at e
    · rename_i hb
      have:k=t:=yF hb
      subst this;simpa using e
    · obtain ⟨h1, h2⟩ := zbM l (k + 1) t v e
      refine ⟨Oo,?_⟩
      have:t - k=(t - (k+1))+1:=Oo
      rw [this];simpa using h2
theorem zg {f:Nat} {fn:Func} {code:Code} {args:List Value} {Y:Type} {φ:Y→Prop} {val:Y→Value} {O':Y→List As} {R':Y→List Fa} {k:Nat} (hf:P.funcs[f]? =some fn) (hb:fn.body=some code) (hn:fn.ntmps=k) (h:∀c:Cx,vm (ro:=none) P (Ret P fn c φ val O' R') c ⟨k,[]⟩ code (zkz 0 args) O R) (hl:yf args.length k=true:=by exact rfl):jI P f args O R φ val O' R':=by
  intro w hh g s r ap h1 h2
  refine calls_of_wp hf hb (wpIn_wide (n:=0).1 ?_)
  refine h ⟨w,hh,g⟩ _ w ⟨rfl,?_,?_⟩ ⟨hh,g,vR.start s r ap h1 h2⟩
  · have : args.length ≤ k := yA hl
    simp [hn];omega
  · intro t v e
    obtain ⟨_,h3⟩:=zbM args 0 t v e
    have h3':args[t]? =some v:=by simpa using h3
    have:=(yb.1 h3').1
    simp only [yG,yv,this,if_true]
    simpa using h3'
def WE (tmps:Array Value):ResultVar→Sem Value
  | .tmp t=>pure (tmps.getD t undef)
  | .cell s t=>do loadVar t (← asAddr (tmps.getD s undef))
theorem Ve (fn:Func) (tmps:Array Value):results fn tmps=(do let vs ←fn.results.mapM (WE tmps);pure (if h:vs.size=1 then vs[0] else .tuple vs)):=by
  have e:(fun rv=>WE tmps rv)=(fun rv=>match rv with| .tmp t=>pure (tmps.getD t undef)| .cell s t=>do loadVar t (← asAddr (tmps.getD s undef)):ResultVar→Sem Value):=by
    funext rv;cases rv <;> rfl
  show _=(do let vs ←fn.results.mapM (fun rv=>WE tmps rv);pure (if h:vs.size=1 then vs[0] else .tuple vs))
  rw [e];rfl
def W6 (P:Program) (n:Sz) (m:Fm) (O:List As) (R:List Fa) (rv:ResultVar) (v:Value):Prop:=
  ∀c a w,Fr n a m→vR c w O R→(WE a.tmps rv).run P w= .ok v w
theorem zj {t:Nat} {v:Value} (h:lk m t=some v):W6 P n m O R (.tmp t) v:=fun c a w f mm=>by
  have:=f.tmp t v h
  simp [WE,yd,this]
theorem zq {Y:Type} {n:Nat} {fn:Func} {φ:Y→Prop} {val:Y→Value} {O1:Y→List As} {R1:Y→List Fa} {r1:ResultVar} {v1:Value} (hr:fn.results= #[r1]) (y:Y) (hy:φ y)
    (h1:W6 P ⟨n,[]⟩ m O R r1 v1) (hv:val y=v1) {is js:List Nat} (ho:V2 is O=some (O1 y)) (hs:q9 js R (R1 y)):jh c ⟨n,[]⟩ (Ret P fn c φ val O1 R1) .ret m O R:=by
  intro a w f mm
  refine ⟨f.defers,v1,?_,y,by rw [hv],hy,mm.sel ho hs⟩
  have e1:=h1 c a w f mm
  simp [Ve,hr,e1]
theorem vD {Y:Type} {n:Nat} {fn:Func} {φ:Y→Prop} {val:Y→Value} {O1:Y→List As} {R1:Y→List Fa} {r1 r2:ResultVar} {v1 v2:Value} (hr:fn.results= #[r1,r2]) (y:Y) (hy:φ y)
    (h1:W6 P ⟨n,[]⟩ m O R r1 v1) (h2:W6 P ⟨n,[]⟩ m O R r2 v2) (hv:val y= .tuple #[v1,v2]) {is js:List Nat} (ho:V2 is O=some (O1 y)) (hs:q9 js R (R1 y)):jh c ⟨n,[]⟩ (Ret P fn c φ val O1 R1) .ret m O R:=by
  intro a w f mm
  refine ⟨f.defers,.tuple #[v1,v2],?_,y,by rw [hv],hy,mm.sel ho hs⟩
  have e1:=h1 c a w f mm
  have e2:=h2 c a w f mm
  simp [Ve,hr,e1,e2]
theorem J1 {Y:Type} {n:Nat} {fn:Func} {φ:Y→Prop} {val:Y→Value} {O1:Y→List As} {R1:Y→List Fa} {r1 r2 r3:ResultVar} {v1 v2 v3:Value} (hr:fn.results= #[r1,r2,r3]) (y:Y) (hy:φ y)
    (h1:W6 P ⟨n,[]⟩ m O R r1 v1) (h2:W6 P ⟨n,[]⟩ m O R r2 v2) (h3:W6 P ⟨n,[]⟩ m O R r3 v3) (hv:val y= .tuple #[v1,v2,v3]) {is js:List Nat} (ho:V2 is O=some (O1 y)) (hs:q9 js R (R1 y)):jh c ⟨n,[]⟩ (Ret P fn c φ val O1 R1) .ret m O R:=by
  intro a w f mm
  refine ⟨f.defers,.tuple #[v1,v2,v3],?_,y,by rw [hv],hy,mm.sel ho hs⟩
  have e1:=h1 c a w f mm
  have e2:=h2 c a w f mm
  have e3:=h3 c a w f mm
  simp [Ve,hr,e1,e2,e3]
theorem zeg {Y:Type} {n:Nat} {fn:Func} {φ:Y→Prop} {val:Y→Value} {O1:Y→List As} {R1:Y→List Fa} (hr:fn.results= #[]) (y:Y) (hy:φ y)
    (hv:val y= .tuple #[]) {is js:List Nat} (ho:V2 is O=some (O1 y)) (hs:q9 js R (R1 y)):jh c ⟨n,[]⟩ (Ret P fn c φ val O1 R1) .ret m O R:=by
  intro a w f mm
  refine ⟨f.defers,.tuple #[],?_,y,by rw [hv],hy,mm.sel ho hs⟩
  simp [Ve,hr]
theorem zje {Y:Type} {fn:Func} {φ:Y→Prop} {val:Y→Value} {O1:Y→List As} {R1:Y→List Fa} (h:jh c n (Ret P fn c φ val O1 R1) .ret m O R):jh c n (Ret P fn c φ val O1 R1) .normal m O R:=h
end
end Sp
namespace Sp
open Go
theorem vG.perm {g:Hp} {O O':List As} (p:O.Perm O'):∀{h:Hp},vG g O h→vG g O' h:=by
  induction p with
  |nil=>exact fun h=>h
  |cons x _ ih=>rintro h ⟨h1,h2,a,e,x,y⟩;exact ⟨h1,h2,a,e,x,ih y⟩
  |swap x y l=>
    rintro h ⟨h1,h2,a,e,hy,k1,k2,b,e2,hx,hl⟩
    subst e2;subst e
    have a':=Hp.apart_joinR.1 a
    refine ⟨k1,h1.join k2,Hp.apart_joinR.2 ⟨Hp.apart_symm a'.1,b⟩,?_,hx,h1,k2,a'.2,rfl,hy,hl⟩
    rw [← Hp.join_assoc,←Hp.join_assoc,Hp.join_comm a'.1]
  |trans _ _ i1 i2=>exact fun h=>i2 (i1 h)
theorem vR.perm {c:Cx} {w:World} {O O':List As} {R:List Fa} (p:O.Perm O') (m:vR c w O R):vR c w O' R:=by
  obtain ⟨h,g,m⟩:=m
  exact ⟨h,g,vG.perm p m.sep,m.holds,m.apart,m.hasH,m.hasG,m.le,m.newG,m.newH,m.kept⟩
theorem qP:∀{O:List As} {i:Nat} {A:As},O[i]? =some A→O.Perm (A :: O.eraseIdx i)
  |[],_,_,h=>by simp at h
  |B :: l,0,A,h=>by simp at h;subst h;exact List.Perm.refl _
  |B :: l,i+1,A,h=>by
    have:=qP (O:=l) (i:=i) (A:=A) (by simpa using h)
    exact (List.Perm.cons B this).trans (List.Perm.swap A B _)
theorem JM:∀{O:List As} {i:Nat} {A:As} (A':As),O[i]? =some A→(A' :: O.eraseIdx i).Perm (O.set i A')
  |[],_,_,_,h=>by simp at h
  |B :: l,0,A,A',h=>List.Perm.refl _
  |B :: l,i+1,A,A',h=>by
    have:=JM (O:=l) (i:=i) (A:=A) A' (by simpa using h)
    exact (List.Perm.swap B A' _).trans (List.Perm.cons B this)
def Qp (i:Nat) (O:List As) (A:As) (O2:List As):Prop:=O2=O.set i A
theorem Qp.z {B A:As} {l:List As}:Qp 0 (B :: l) A (A :: l):=rfl
theorem Qp.s {i:Nat} {B A:As} {l l2:List As} (h:Qp i l A l2):Qp (i+1) (B :: l) A (B :: l2):=by unfold Qp at *;subst h;rfl
def j3 (ops:Array Oper) (m:Fm) (o:Oper):Option Bool:=
  match o.guard with
  |none=>some true
  |some (j,want)=>match (ops[j]?).bind (·.dst) with
    |some t=>match lk m t with
      |some (.bool b)=>some (b == want)
      |some (.tuple _)=>some false
      |_=>none
    |none=>none
section
variable {P : Program} {Q : Exit → Act → World → Prop} {c : Cx} {n : Sz} {ro : Option Nat} {ops : Array Oper} {l : List Oper} {o : Oper} {m : Fm} {O : List As} {R : List Fa}
theorem Fr.wanted {a:Act} (f:Fr n a m) {b:Bool} (h:j3 ops m o=some b):Region.wanted o (yielded ops a.tmps)=b:=by
  unfold j3 at h
  unfold Region.wanted
  cases hg:o.guard with
  |none=>rw [hg] at h;simpa using h
  |some jw=>
    obtain ⟨j,want⟩:=jw
    rw [hg] at h
    simp only at h ⊢
    cases hd:(ops[j]?).bind (·.dst) with
    |none=>rw [hd] at h;cases h
    |some t=>
      rw [hd] at h
      simp only at h
      cases hl:lk m t with
      |none=>rw [hl] at h;cases h
      |some v=>
        rw [hl] at h
        cases v <;> simp only at h <;> try cases h
        · rename_i b'
          have:=f.tmp t _ hl
          simp only [yielded,hd,Option.bind_some,this] at*
          cases b' <;> cases want <;> rfl
        · have := f.tmp t _ hl
          simp only [yielded,hd,Option.bind_some,this] at*
          cases want <;> rfl
theorem zkA {ρ:Operand→Value} {w w':World} {v:Value} (h:(execOp ρ o).run P w= .ok (.value v) w'):∀c,o.op≠ .defer c:=by
  intro c hc
  simp only [execOp,hc,Sem.run_bind] at h
  cases hr:(resolve ρ c o.type).run P w <;> rw [hr] at h <;> simp at h
def zrc (P:Program) (o:Oper) (a:Act) (K:Act→World→Prop) (Q:Exit→Act→World→Prop):Result Next→Prop
  | .ok (.value v) w'=>K (a.put o.dst v) w'
  | .ok .skip w'=>K (a.put o.dst undef) w'
  | .ok (.enter f args) w'=>Calls P f args w' fun
      | .returned v,w''=>K (a.put o.dst v) w''
      | .panicked chain,w''=>Q (.panic chain) a w''
      | .outgrown,_=>LetsOut Q
  |_=>False
def WpB (P:Program) (o:Oper) (a:Act) (w:World) (K:Act→World→Prop) (Q:Exit→Act→World→Prop):Prop:=
  (∀c,o.op≠ .defer c)∧zrc P o a K Q ((execOp a.eval o).run P w)
theorem zfH {ro:Option Nat} {k:Nat} {f:Nat} {args:Array Value} {w:World} {R:Ending→World→Prop} (h:Calls P f args w R):CallsIn (FR ro) k P f args w R:=by
  cases ro with
  |none=>exact callsIn_wide.2 h
  |some l=>exact CallsIn.inRound l (callsIn_wide.2 h)
theorem WpB.wp {a:Act} {w:World} {K:Act→World→Prop} (h:WpB P o a w K Q):o.wp P a w K Q:=by
  have h2:=h.2
  unfold Oper.wp
  revert h2
  cases (execOp a.eval o).run P w with
  |ok n w'=>cases n <;> first|exact id|exact False.elim
  |_=>exact False.elim
theorem WpB.wpIn {a:Act} {w:World} {K:Act→World→Prop} (h:WpB P o a w K Q):o.wpIn (FR ro) 0 P a w K Q:=by
  refine ⟨fun _ _=>trivial,?_⟩
  rw [Oper.semAt_eq _ _ _ h.1]
  have h2:=h.2
  revert h2
  cases (execOp a.eval o).run P w with
  |ok n w'=>
    cases n with
    |enter f args=>exact fun h=>⟨fun e=>(by cases e),zfH h⟩
    |_=>first|exact id|exact False.elim
  |_=>exact False.elim
theorem zbN {a:Act} {w:World} {K:Act→World→Prop} {r:Result Next} (hnd:∀c,o.op≠ .defer c) (hrun:(execOp a.eval o).run P w=r) (h:zrc P o a K Q r):WpB P o a w K Q:=⟨hnd,by rw [hrun];exact h⟩
theorem Zh {a:Act} {w w':World} {v:Value} {K:Act→World→Prop} (hrun:(execOp a.eval o).run P w= .ok (.value v) w') (h:K (a.put o.dst v) w'):WpB P o a w K Q:=
  zbN (zkA hrun) hrun h
theorem zhn (hw:j3 ops m o=some false) (hd:okT n o.dst=true) (k:ve (ro:=ro) P ops Q c n l (KB m o.dst undef) O R):ve (ro:=ro) P ops Q c n (o :: l) m O R:=by
  intro a w f mm
  unfold wpListIn
  rw [if_neg (by rw [f.wanted hw];simp)]
  exact ⟨fun _ _=>trivial,k _ w (f.put hd _) mm⟩
def PV (P:Program) (n:Sz) (o:Oper) (m:Fm) (v:Value):Prop:=∀a w,Fr n a m→(execOp a.eval o).run P w= .ok (.value v) w
theorem g_pv (hw:j3 ops m o=some true) (hd:okT n o.dst=true) {v:Value} (h:PV P n o m v) (k:ve (ro:=ro) P ops Q c n l (KB m o.dst v) O R):ve (ro:=ro) P ops Q c n (o :: l) m O R:=by
  intro a w f mm
  unfold wpListIn
  rw [if_pos (f.wanted hw)]
  exact (Zh (h a w f) (k _ w (f.put hd _) mm)).wpIn
def Vl (P:Program) (n:Sz) (o:Oper) (m:Fm) (O:List As) (R:List Fa) {Y:Type} (φ:Y→Prop) (val:Y→Value) (R':Y→List Fa):Prop:=
  ∀a,Fr n a m→∀h g,vG g O h→Holds g R→∃y,φ y∧Holds g (R' y)∧∀w,Has w h→Has w g→(execOp a.eval o).run P w= .ok (.value (val y)) w
theorem g_vl (hw:j3 ops m o=some true) (hd:okT n o.dst=true) {Y:Type} {φ:Y→Prop} {val:Y→Value} {R':Y→List Fa} (h:Vl P n o m O R φ val R')
    (k:∀y,φ y→ve (ro:=ro) P ops Q c n l (KB m o.dst (val y)) O (R' y++R)):ve (ro:=ro) P ops Q c n (o :: l) m O R:=by
  intro a w f mm
  obtain ⟨hh,g,mm⟩:=mm
  obtain ⟨y,hy,hr,hrun⟩:=h a f hh g mm.sep mm.holds
  unfold wpListIn
  rw [if_pos (f.wanted hw)]
  refine (Zh (hrun w mm.hasH mm.hasG) ?_).wpIn
  exact k y hy _ w (f.put hd _) ⟨hh,g,mm.sep,Holds.app hr mm.holds,mm.apart,mm.hasH,mm.hasG,mm.le,mm.newG,mm.newH,mm.kept⟩
section
variable {op : Op} {t : Tmp} {ty : TypeId} {ps : String} {af : Array Edge} {gd : Option (Nat × Bool)}
theorem zcd (hw:j3 ops m ⟨some t,op,ty,ps,af,gd⟩=some false) (hd:yf (t+1) n.sz=true) (k:ve (ro:=ro) P ops Q c n l ((t,undef) :: m) O R):ve (ro:=ro) P ops Q c n (⟨some t,op,ty,ps,af,gd⟩ :: l) m O R:=zhn hw hd k
theorem zho (hw:j3 ops m ⟨some t,op,ty,ps,af,gd⟩=some true) (hd:yf (t+1) n.sz=true) {v:Value} (h:PV P n ⟨some t,op,ty,ps,af,gd⟩ m v) (k:ve (ro:=ro) P ops Q c n l ((t,v) :: m) O R):ve (ro:=ro) P ops Q c n (⟨some t,op,ty,ps,af,gd⟩ :: l) m O R:=g_pv hw hd h k
theorem zdA (hw:j3 ops m ⟨some t,op,ty,ps,af,gd⟩=some true) (hd:yf (t+1) n.sz=true) {Y:Type} {φ:Y→Prop} {val:Y→Value} {R':Y→List Fa} (h:Vl P n ⟨some t,op,ty,ps,af,gd⟩ m O R φ val R')
    (k:∀y,φ y→ve (ro:=ro) P ops Q c n l ((t,val y) :: m) O (R' y++R)):ve (ro:=ro) P ops Q c n (⟨some t,op,ty,ps,af,gd⟩ :: l) m O R:=g_vl hw hd h k
theorem vX {Y:Type} {φ:Y→Prop} {val:Y→Value} {R':Y→List Fa} (h:Vl P n ⟨some t,op,ty,ps,af,gd⟩ m O R φ val R') (k:∀y,φ y→ve (ro:=ro) P ops Q c n l ((t,val y) :: m) O (R' y++R)) (hw:j3 ops m ⟨some t,op,ty,ps,af,gd⟩=some true:=by exact rfl) (hd:yf (t+1) n.sz=true:=by exact rfl):ve (ro:=ro) P ops Q c n (⟨some t,op,ty,ps,af,gd⟩ :: l) m O R:=zdA hw hd h k
end
def Ef (P:Program) (n:Sz) (o:Oper) (m:Fm) (O:List As) (R:List Fa) {Y:Type} (φ:Y→Prop) (val:Y→Value) (O':Y→List As) (R':Y→List Fa):Prop:=
  ∀a,Fr n a m→∀w h g,vG g O h→Holds g R→h.apart g→Has w h→Has w g→∀(K:Act→World→Prop) (Q:Exit→Act→World→Prop),
    (∀y w',φ y→vR ⟨w,h,g⟩ w' (O' y) (R' y)→K (a.put o.dst (val y)) w')→WpB P o a w K Q
theorem zr6 {F:List As} (hw:j3 ops m o=some true) (hd:okT n o.dst=true) {Y:Type} {φ:Y→Prop} {val:Y→Value} {O':Y→List As} {R':Y→List Fa} (h:Ef P n o m O R φ val O' R')
    (k:∀y,φ y→ve (ro:=ro) P ops Q c n l (KB m o.dst (val y)) (O' y++F) (R' y++R)):ve (ro:=ro) P ops Q c n (o :: l) m (O++F) R:=by
  intro a w f mm
  obtain ⟨hh,g,s,r,ap,h1,h2,hfin⟩:=vR.framed mm
  unfold wpListIn
  rw [if_pos (f.wanted hw)]
  refine WpB.wpIn (h a f w hh g s r ap h1 h2 _ _ fun y w' hy mm'=>k y hy _ w' (f.put hd _) (hfin w' _ _ mm'))
theorem Zy (hw:j3 ops m o=some true) (hd:okT n o.dst=true) {Y:Type} {φ:Y→Prop} {val:Y→Value} {O':Y→List As} {R':Y→List Fa} (h:Ef P n o m [] R φ val O' R')
    (k:∀y,φ y→ve (ro:=ro) P ops Q c n l (KB m o.dst (val y)) (O' y++O) (R' y++R)):ve (ro:=ro) P ops Q c n (o :: l) m O R:=zr6 (O:=[]) (F:=O) hw hd h k
theorem qZ {Y:Type} {φ:Y→Prop} {val:Y→Value} {O':Y→List As} {R':Y→List Fa} (h:Ef P n o m [] R φ val O' R') (k:∀y,φ y→ve (ro:=ro) P ops Q c n l (KB m o.dst (val y)) (O' y++O) (R' y++R)) (hw:j3 ops m o=some true:=by exact rfl) (hd:okT n o.dst=true:=by exact rfl):ve (ro:=ro) P ops Q c n (o :: l) m O R:=Zy hw hd h k
theorem Zz (i:Nat) {A:As} (hi:O[i]? =some A) (hw:j3 ops m o=some true) (hd:okT n o.dst=true) {Y:Type} {φ:Y→Prop} {val:Y→Value} {A':Y→As} {O2:Y→List As} {R':Y→List Fa}
    (h:Ef P n o m [A] R φ val (fun y=>[A' y]) R') (hs:∀y,Qp i O (A' y) (O2 y))
    (k:∀y,φ y→ve (ro:=ro) P ops Q c n l (KB m o.dst (val y)) (O2 y) (R' y++R)):ve (ro:=ro) P ops Q c n (o :: l) m O R:=by
  intro a w f mm
  have:=zr6 (P:=P) (Q:=Q) (c:=c) (l:=l) (ops:=ops) (O:=[A]) (F:=O.eraseIdx i) hw hd h (fun y hy a w f mm=>by
    have e:=hs y
    unfold Qp at e
    exact k y hy a w f (by rw [e];exact mm.perm (JM (A' y) hi)))
  exact this a w f (mm.perm (qP hi))
theorem vO (i:Nat) {A:As} (hi:O[i]? =some A) {Y:Type} {φ:Y→Prop} {val:Y→Value} {A':Y→As} {O2:Y→List As} {R':Y→List Fa} (h:Ef P n o m [A] R φ val (fun y=>[A' y]) R') (hs:∀y,Qp i O (A' y) (O2 y)) (k:∀y,φ y→ve (ro:=ro) P ops Q c n l (KB m o.dst (val y)) (O2 y) (R' y++R)) (hw:j3 ops m o=some true:=by exact rfl) (hd:okT n o.dst=true:=by exact rfl):ve (ro:=ro) P ops Q c n (o :: l) m O R:=Zz i hi hw hd h hs k
theorem zr7 {p:Prop} (h:∀g,Holds g R→p) (k:p→ve (ro:=ro) P ops Q c n l m O R):ve (ro:=ro) P ops Q c n l m O R:=by
  intro a w f mm
  obtain ⟨hh,g,mm⟩:=mm
  exact k (h g mm.holds) a w f ⟨hh,g,mm⟩
theorem zhp {p:Prop} {x:Code} (h:∀g,Holds g R→p) (k:p→vm (ro:=ro) P Q c n x m O R):vm (ro:=ro) P Q c n x m O R:=by
  intro a w f mm
  obtain ⟨hh,g,mm⟩:=mm
  exact k (h g mm.holds) a w f ⟨hh,g,mm⟩
theorem vR.more {w:World} {X:Type} {φ:X→Prop} {R':X→List Fa} (h:∀g,Holds g R→∃x,φ x∧Holds g (R' x)) (mm:vR c w O R):∃x,φ x∧vR c w O (R' x++R):=by
  obtain ⟨hh,g,mm⟩:=mm
  obtain ⟨x,hx,hr⟩:=h g mm.holds
  exact ⟨x,hx,hh,g,mm.sep,Holds.app hr mm.holds,mm.apart,mm.hasH,mm.hasG,mm.le,mm.newG,mm.newH,mm.kept⟩
theorem Vf {X:Type} {φ:X→Prop} {R':X→List Fa} (h:∀g,Holds g R→∃x,φ x∧Holds g (R' x)) (k:∀x,φ x→ve (ro:=ro) P ops Q c n l m O (R' x++R)):ve (ro:=ro) P ops Q c n l m O R:=by
  intro a w f mm
  obtain ⟨x,hx,mm'⟩:=vR.more h mm
  exact k x hx a w f mm'
theorem zlR {x:Code} {X:Type} {φ:X→Prop} {R':X→List Fa} (h:∀g,Holds g R→∃x,φ x∧Holds g (R' x)) (k:∀y,φ y→vm (ro:=ro) P Q c n x m O (R' y++R)):vm (ro:=ro) P Q c n x m O R:=by
  intro a w f mm
  obtain ⟨y,hy,mm'⟩:=vR.more h mm
  exact k y hy a w f mm'
theorem vR.turn {w:World} (i:Nat) {A:As} (hi:O[i]? =some A) {X:Type} {φ:X→Prop} {A':X→As} {R':X→List Fa}
    (h:∀g h,Holds g R→A.on g h→h.apart g→∃x h' k,φ x∧h=Hp.join h' k∧h'.apart k∧(A' x).on (g.join k) h'∧Holds (g.join k) (R' x)) (mm:vR c w O R):∃x,φ x∧vR c w (O.set i (A' x)) (R' x++R):=by
  obtain ⟨hh,g,mm⟩:=mm
  obtain ⟨h1,h2,a,e,hA,hO,put⟩:=vG.pick i hi mm.sep
  subst e
  have ap:=Hp.apart_join.1 mm.apart
  obtain ⟨x,h',k,hx,e1,a1,hA',hR'⟩:=h g h1 mm.holds hA ap.1
  subst e1
  refine ⟨x,hx,?_⟩
  have a':=Hp.apart_join.1 a
  have g':=Hp.apart_join.1 ap.1
  have hle:g.le (g.join k):=Hp.le_joinL _ _
  have hkg:∀b o,(g.join k) b=some o→g b=some o∨k b=some o:=fun b o e=>by
    unfold Hp.join at e
    cases eg:g b with
    |some v=>rw [eg] at e;exact .inl e
    |none=>rw [eg] at e;exact .inr e
  have hkh:∀b o,k b=some o→((h'.join k).join h2) b=some o:=fun b o e=>Hp.le_joinL _ _ _ _ (Hp.le_joinR a1 _ _ e)
  have put':vG (g.join k) (O.set i (A' x)) (h'.join h2):=by
    obtain ⟨_,_,_,_,_,_,put2⟩:=vG.pick i hi (vG.mono hle mm.sep)
    have hsp:vG (g.join k) (A' x :: O.eraseIdx i) (h'.join h2):=⟨h',h2,a'.1,rfl,hA',vG.mono hle hO⟩
    exact vG.perm (JM (A' x) hi) hsp
  refine ⟨h'.join h2,g.join k,put',Holds.app hR' (Holds.mono hle mm.holds),?_,?_,?_,Hp.le_trans mm.le hle,?_,?_,mm.kept⟩
  · exact Hp.apart_join.2 ⟨Hp.apart_joinR.2 ⟨g'.1,a1⟩,Hp.apart_joinR.2 ⟨ap.2,Hp.apart_symm a'.2⟩⟩
  · exact Has.mono mm.hasH (Hp.join_le (Hp.le_trans (Hp.le_joinL h' k) (Hp.le_joinL _ _)) (Hp.le_joinR a))
  · intro b o e
    rcases hkg b o e with y|y
    · exact mm.hasG _ _ y
    · exact mm.hasH _ _ (hkh _ _ y)
  · intro b e nn
    cases y:(g.join k) b with
    |none=>exact absurd y nn
    |some o=>
      rcases hkg b o y with z|z
      · exact mm.newG b e (by rw [z];simp)
      · by_cases d : c.D b = none
        · exact .inl (mm.newH b d (by rw [hkh _ _ z];simp))
        · exact .inr d
  · intro b e nn
    refine mm.newH b e (fun y=>nn ?_)
    have:=Hp.join_none.1 y
    exact Hp.join_none.2 ⟨(Hp.join_none.1 this.1).1,this.2⟩
end
theorem zeh {P : Program} {f : Nat} {fn : Func} {code : Code} (hf : P.funcs[f]? = some fn) (hb : fn.body = some code) (hn : (fn.name == "runtime.NumGoroutine") = false) (args : Array Value) (w : World) :
    (callFunc f args).run P w= .ok (.enter f args) w:=by
  have hn' : ¬ fn.name = "runtime.NumGoroutine" := by simpa using hn
  simp [callFunc,hf,hn',hb]
section
variable {P : Program} {Q : Exit → Act → World → Prop} {c : Cx} {n : Sz} {ro : Option Nat} {ops : Array Oper} {l : List Oper} {m : Fm} {O : List As} {R : List Fa}
def evs (m:Fm):List Operand→List Value→Prop
  |[],[]=>True
  |x :: xs,v :: vs=>vz m x=some v∧evs m xs vs
  |_,_=>False
theorem evs.map {a:Act} (f:Fr n a m):∀{xs:List Operand} {vs:List Value},evs m xs vs→xs.map a.eval=vs
  |[],[],_=>rfl
  |x :: xs,v :: vs,⟨h1,h2⟩=>by simp [f.ev h1,evs.map f h2]
structure CanEnter (P:Program) (f:Nat):Prop where
  go:∀args w,(callFunc f args).run P w= .ok (.enter f args) w
theorem zlS {f : Nat} {fn : Func} {code : Code} (hf : P.funcs[f]? = some fn) (hb : fn.body = some code) (hn : (fn.name == "runtime.NumGoroutine") = false) : CanEnter P f :=
  ⟨fun args w=>zeh hf hb hn args w⟩
theorem Wb {d:Option Tmp} {fo:Operand} {xs:List Operand} {ats:Array TypeId} {ty:TypeId} {ps:String} {af:Array Edge} {gd:Option (Nat×Bool)} {f:Nat} {first cap vs:List Value}
    (hf:vz m fo=some (.func (.func f) first.toArray cap.toArray)) (hx:evs m xs vs) (hc:CanEnter P f) {Y:Type} {φ:Y→Prop} {val:Y→Value} {O':Y→List As} {R':Y→List Fa}
    (h:jI P f (first++vs++cap) O R φ val O' R'):Ef P n ⟨d,.call ⟨.value fo,xs.toArray,ats⟩,ty,ps,af,gd⟩ m O R φ val O' R':=by
  intro a fr w hh g s r ap h1 h2 K Q hK
  have e1:a.eval fo=_:=fr.ev hf
  have e2:xs.toArray.map a.eval=vs.toArray:=by rw [yx,evs.map fr hx]
  have hrun:(execOp a.eval ⟨d,.call ⟨.value fo,xs.toArray,ats⟩,ty,ps,af,gd⟩).run P w= .ok (.enter f (first++vs++cap).toArray) w:=by
    simp only [execOp,resolve,e1,e2,Deferred.ofValue,Sem.run_bind,Sem.run_pure,Result.andThen_ok,invoke]
    have:=hc.go ((first.toArray++vs.toArray)++cap.toArray) w
    simpa using this
  refine zbN (fun c e=>by cases e) hrun ?_
  exact ((h w hh g s r ap h1 h2).mono fun e w' ⟨y,he,hy,hm⟩=>by subst he;exact hK y w' hy hm)
end
end Sp
namespace Sp
open Go
def ztE:TypeDesc→Bool
  | .struct _| .array _ _=>true
  |_=>false
structure Ty (P:Program) (t:TypeId) (n:Nat) (agg:Bool):Prop where
  size:(P.info? t).map (·.size)=some n
  agg:(P.underlying t).map ztE=some agg
def jY (P:Program) (t:TypeId) (z:Value):Prop:=(P.info? t).bind (·.zero)=some z
section
variable {P : Program} {w : World} {t : TypeId} {n : Nat} {agg : Bool}
theorem v7 (h:(P.info? t).map (·.size)=some n):(sizeOf t).run P w= .ok n w:=by
  cases e:P.info? t with
  |none=>rw [e] at h;cases h
  |some i=>rw [e] at h;simp at h;simp [sizeOf,typeInfo,e,h]
theorem Ty.run_size (h:Ty P t n agg):(sizeOf t).run P w= .ok n w:=v7 h.size
theorem Ty.run_agg (h:Ty P t n agg):(isAgg t).run P w= .ok agg w:=by
  cases e:P.underlying t with
  |none=>have:=h.agg;rw [e] at this;cases this
  |some d=>
    have h2:=h.agg
    rw [e] at h2
    simp at h2
    simp only [isAgg,Sem.run_bind,run_underlying e,Result.andThen_ok]
    cases d <;> simp [ztE] at h2 <;> subst h2 <;> rfl
theorem Vg {z:Value} (h:jY P t z):(zeroValue t).run P w= .ok z w:=by
  unfold jY at h
  cases e:P.info? t with
  |none=>rw [e] at h;cases h
  |some i=>
    rw [e] at h
    simp at h
    simp [zeroValue,typeInfo,e,h]
end
section
variable {P : Program} {Q : Exit → Act → World → Prop} {c : Cx} {n : Sz} {ro : Option Nat} {ops : Array Oper} {l : List Oper} {m : Fm} {O : List As} {R : List Fa}
variable {d : Option Tmp} {ty : TypeId} {ps : String} {af : Array Edge} {gd : Option (Nat × Bool)}
theorem qU {x:Operand} {v:Value} (h:vz m x=some v):PV P n ⟨d,.move x,ty,ps,af,gd⟩ m v:=fun a w f=>by
  simp [execOp,f.ev h]
theorem zT {x:Operand} {v:Value} (h:vz m x=some v):PV P n ⟨d,.assign x,ty,ps,af,gd⟩ m v:=fun a w f=>by
  simp [execOp,f.ev h]
theorem jx {x y z:Operand} {b:Bool} {v:Value} (h:vz m x=some (.bool b)) (h1:vz m (if b then y else z)=some v):PV P n ⟨d,.pick x y z,ty,ps,af,gd⟩ m v:=fun a w f=>by
  have e:=f.ev h
  have e1:=f.ev h1
  cases b <;> simp at e1 <;> simp [execOp,e,e1,asBool]
theorem qD {x:Operand} {i:Nat} {vs:List Value} {v:Value} (h:vz m x=some (.tuple vs.toArray)) (hi:vs[i]? =some v):PV P n ⟨d,.extract x i,ty,ps,af,gd⟩ m v:=fun a w f=>by
  simp [execOp,f.ev h,Instr.extract,hi]
theorem v6 {fn:Fn} {fs cs:List Operand} {vf vc:List Value} (h1:evs m fs vf) (h2:evs m cs vc):PV P n ⟨d,.makeFunc fn fs.toArray cs.toArray,ty,ps,af,gd⟩ m (.func fn vf.toArray vc.toArray):=fun a w f=>by
  simp [execOp,Instr.makeFunc,evs.map f h1,evs.map f h2]
section
variable {t t2 : TypeId} {x y : Operand} {k : IntKind} {a b z : Int}
theorem qm (h1:vz m x=some (.int k a)) (h2:vz m y=some (.int k b)) (hz:k.wrap (a+b)=z):PV P n ⟨d,.binOp .add t x y t2,ty,ps,af,gd⟩ m (.int k z):=fun ac w f=>by
  simp [execOp,f.ev h1,f.ev h2,eqGuard_at_int,binOp_add,Op.intArith,hz]
theorem qx (h1:vz m x=some (.int k a)) (h2:vz m y=some (.int k b)) (hz:k.wrap (a - b)=z):PV P n ⟨d,.binOp .sub t x y t2,ty,ps,af,gd⟩ m (.int k z):=fun ac w f=>by
  simp [execOp,f.ev h1,f.ev h2,eqGuard_at_int,binOp_sub,Op.intArith,hz]
theorem qw (h1:vz m x=some (.int k a)) (h2:vz m y=some (.int k b)) (hz:k.wrap (a*b)=z):PV P n ⟨d,.binOp .mul t x y t2,ty,ps,af,gd⟩ m (.int k z):=fun ac w f=>by
  simp [execOp,f.ev h1,f.ev h2,eqGuard_at_int,binOp_mul,Op.intArith,hz]
theorem Z6 (h1:vz m x=some (.int k a)) (h2:vz m y=some (.int k b)) (hb:b≠0) (hz:k.wrap (a.tdiv b)=z):PV P n ⟨d,.binOp .quo t x y t2,ty,ps,af,gd⟩ m (.int k z):=fun ac w f=>by
  simp [execOp,f.ev h1,f.ev h2,eqGuard_at_int,binOp_quo,Op.intDiv,hb,hz]
theorem jk (h1:vz m x=some (.int k a)) (h2:vz m y=some (.int k b)) (hb:b≠0) (hz:a.tmod b=z):PV P n ⟨d,.binOp .rem t x y t2,ty,ps,af,gd⟩ m (.int k z):=fun ac w f=>by
  simp [execOp,f.ev h1,f.ev h2,eqGuard_at_int,binOp_rem,Op.intDiv,hb,hz]
theorem zhq (h1:vz m x=some (.int k a)) (h2:vz m y=some (.int k b)):PV P n ⟨d,.binOp .lss t x y t2,ty,ps,af,gd⟩ m (.bool (decide (a<b))):=fun ac w f=>by
  simp [execOp,f.ev h1,f.ev h2,eqGuard_at_int,binOp_lss]
theorem zr8 (h1:vz m x=some (.int k a)) (h2:vz m y=some (.int k b)):PV P n ⟨d,.binOp .leq t x y t2,ty,ps,af,gd⟩ m (.bool (decide (a≤b))):=fun ac w f=>by
  simp [execOp,f.ev h1,f.ev h2,eqGuard_at_int,binOp_leq]
theorem zhr (h1:vz m x=some (.int k a)) (h2:vz m y=some (.int k b)):PV P n ⟨d,.binOp .gtr t x y t2,ty,ps,af,gd⟩ m (.bool (decide (b<a))):=fun ac w f=>by
  simp [execOp,f.ev h1,f.ev h2,eqGuard_at_int,binOp_gtr]
theorem zlT (h1:vz m x=some (.int k a)) (h2:vz m y=some (.int k b)):PV P n ⟨d,.binOp .geq t x y t2,ty,ps,af,gd⟩ m (.bool (decide (b≤a))):=fun ac w f=>by
  simp [execOp,f.ev h1,f.ev h2,eqGuard_at_int,binOp_geq]
theorem zce (h1:vz m x=some (.int k a)) (h2:vz m y=some (.int k b)):PV P n ⟨d,.binOp .eql t x y t2,ty,ps,af,gd⟩ m (.bool (decide (a=b))):=fun ac w f=>by
  have:(a == b)=decide (a=b):=by by_cases h:a=b <;> simp [h]
  simp [execOp,f.ev h1,f.ev h2,eqGuard_at_int,binOp_eql,this]
theorem zhs (h1:vz m x=some (.int k a)) (h2:vz m y=some (.int k b)):PV P n ⟨d,.binOp .neq t x y t2,ty,ps,af,gd⟩ m (.bool (decide (a≠b))):=fun ac w f=>by
  have:(a != b)=decide (a≠b):=by by_cases h:a=b <;> simp [h]
  simp [execOp,f.ev h1,f.ev h2,eqGuard_at_int,binOp_neq,this]
theorem JD (h1:vz m x=some (.int k a)) (hz:k.wrap (0 - a)=z):PV P n ⟨d,.unOp .neg t x,ty,ps,af,gd⟩ m (.int k z):=fun ac w f=>by
  simp only [execOp,f.ev h1,Op.unary,Op.intArith,hz,Sem.run_bind,Sem.run_pure,Result.andThen_ok]
theorem zY {k':IntKind} {dst:TypeId} (h1:vz m x=some (.int k a)) (hs:(P.underlying t).isSome=true) (hd:P.underlying dst=some (.int k')) (hz:k'.wrap a=z):PV P n ⟨d,.convert t dst x,ty,ps,af,gd⟩ m (.int k' z):=fun ac w f=>by
  cases hs':P.underlying t with
  |none=>rw [hs'] at hs;cases hs
  |some u=>
    simp only [execOp,f.ev h1,convert,Sem.run_bind,run_underlying hs',run_underlying hd,Result.andThen_ok,Conv.intToInt,hz,Sem.run_pure]
end
theorem Zo {t:TypeId} {x:Operand} {b:Bool} (h:vz m x=some (.bool b)):PV P n ⟨d,.unOp .not t x,ty,ps,af,gd⟩ m (.bool (!b)):=fun a w f=>by
  simp [execOp,f.ev h,Op.unary]
theorem Jr {t:TypeId} {x:Operand} {p:Prop} [Decidable p] (h:vz m x=some (.bool (decide p))):PV P n ⟨d,.unOp .not t x,ty,ps,af,gd⟩ m (.bool (decide (¬p))):=fun a w f=>by
  have:=Zo (P:=P) (n:=n) (d:=d) (ty:=ty) (ps:=ps) (af:=af) (gd:=gd) (t:=t) h a w f
  rw [this];simp
theorem run_equal_bool {t:TypeId} {a b:Bool} {w:World} (hu:P.underlying t=some .bool):(Op.equal t (.bool a) (.bool b)).run P w= .ok (a == b) w:=by
  have:∀d,(Op.equalIn (d+1) t (.bool a) (.bool b)).run P w= .ok (a == b) w:=fun d=>by
    rw [Op.equalIn];simp only [Sem.run_bind,run_underlying hu,Result.andThen_ok,Sem.run_pure]
  exact this 9999
theorem zcf {t:TypeId} {a b:Bool}:binOp .eql t (.bool a) (.bool b)=(do pure (.bool (← Op.equal t (.bool a) (.bool b)))):=rfl
theorem zcg {t:TypeId} {a b:Bool}:binOp .neq t (.bool a) (.bool b)=(do pure (.bool (!(← Op.equal t (.bool a) (.bool b))))):=rfl
theorem zbp {t t2:TypeId} {x y:Operand} {a b:Bool} (hu:P.underlying t=some .bool) (h1:vz m x=some (.bool a)) (h2:vz m y=some (.bool b)):PV P n ⟨d,.binOp .eql t x y t2,ty,ps,af,gd⟩ m (.bool (decide (a=b))):=fun ac w f=>by
  have e:(a == b)=decide (a=b):=by cases a <;> cases b <;> rfl
  simp only [execOp,f.ev h1,f.ev h2,eqGuard_at_bool,zcf,Sem.run_bind,Sem.run_pure,Result.andThen_ok,run_equal_bool hu,e]
theorem Zt {t t2:TypeId} {x y:Operand} {a b:Bool} (hu:P.underlying t=some .bool) (h1:vz m x=some (.bool a)) (h2:vz m y=some (.bool b)):PV P n ⟨d,.binOp .neq t x y t2,ty,ps,af,gd⟩ m (.bool (decide (a≠b))):=fun ac w f=>by
  have e:(!(a == b))=decide (a≠b):=by cases a <;> cases b <;> rfl
  simp only [execOp,f.ev h1,f.ev h2,eqGuard_at_bool,zcg,Sem.run_bind,Sem.run_pure,Result.andThen_ok,run_equal_bool hu,e]
theorem zr9 {x y:Operand} {ats:Array TypeId} {k:IntKind} {a b:Int} (h1:vz m x=some (.int k a)) (h2:vz m y=some (.int k b)):PV P n ⟨d,.call ⟨.builtin .min,#[x,y],ats⟩,ty,ps,af,gd⟩ m (.int k (min a b)):=fun ac w f=>by
  have:(if b<a then b else a)=min a b:=by by_cases h:b<a <;> simp [h,Int.min_def] <;> omega
  simp [execOp,resolve,invoke,builtin,Builtin.min_,Builtin.min2,f.ev h1,f.ev h2,this]
theorem zei {x y:Operand} {ats:Array TypeId} {k:IntKind} {a b:Int} (h1:vz m x=some (.int k a)) (h2:vz m y=some (.int k b)):PV P n ⟨d,.call ⟨.builtin .max,#[x,y],ats⟩,ty,ps,af,gd⟩ m (.int k (max a b)):=fun ac w f=>by
  have:(if a<b then b else a)=max a b:=by by_cases h:a<b <;> simp [h,Int.max_def] <;> omega
  simp [execOp,resolve,invoke,builtin,Builtin.max_,Builtin.max2,f.ev h1,f.ev h2,this]
theorem vL {t e:TypeId} {x:Operand} {p:Option Addr} {k cap:Nat} (hu:P.underlying t=some (.slice e)) (h:vz m x=some (.slice p k cap)):PV P n ⟨d,.call ⟨.builtin .len,#[x],#[t]⟩,ty,ps,af,gd⟩ m (.int .i64 k):=fun a w f=>by
  simp [execOp,resolve,invoke,builtin,Builtin.len_,f.ev h,run_underlying hu,goInt]
def JL (cells:List Value) (off k:Nat) (cs:List Value):Prop:=cs.length=k∧∀j v,cs[j]? =some v→cells[off+j]? =some v
theorem JL.nil {cells:List Value}:JL cells 0 0 []:=⟨rfl,fun j v h=>by simp at h⟩
theorem JL.take {cells:List Value} {k:Nat} {cs:List Value} {u:Value} (h:JL cells 0 k cs):JL (u :: cells) 0 (k+1) (u :: cs):=
  ⟨by simp [h.1],fun j v e=>by
    cases j with
    |zero=>simpa using e
    |succ j=>have:=h.2 j v (by simpa using e);simpa using this⟩
theorem JL.skip {cells:List Value} {off k:Nat} {cs:List Value} {u:Value} (h:JL cells off k cs):JL (u :: cells) (off+1) k cs:=
  ⟨h.1,fun j v e=>by have:=h.2 j v e;rw [show off+1+j=(off+j)+1 by omega];simpa using this⟩
theorem JL.eq {cells:List Value} {off k:Nat} {cs:List Value} (h:JL cells off k cs):(cells.drop off).take k=cs:=by
  apply List.ext_getElem?
  intro j
  rw [yq]
  split
  · rename_i hj
    have hj':j<cs.length:=by rw [h.1];exact hj
    rw [yr,h.2 j cs[j] (yh hj'),yh hj']
  · rename_i hj
    rw [yH (by rw [h.1];omega)]
theorem W7 {t:TypeId} {k:Nat} {w:World} (ht:Ty P t k true) {cells cs:List Value} {off:Nat} (h:JL cells off k cs):(part t cells.toArray off).run P w= .ok (.agg cs.toArray) w:=by
  simp only [part,Sem.run_bind,ht.run_agg,ht.run_size,Result.andThen_ok,if_true,Sem.run_pure]
  congr 2
  apply Array.ext'
  rw [Array.toList_extract]
  simp only [List.toList_toArray]
  rw [← h.eq]
  simp [List.extract]
theorem VQ {t:TypeId} {k:Nat} {w:World} (ht:Ty P t k false) {cells:List Value} {off:Nat} {v:Value} (h:cells[off]? =some v):(part t cells.toArray off).run P w= .ok v w:=by
  simp only [part,Sem.run_bind,ht.run_agg,Result.andThen_ok]
  simp [h]
theorem W8 {s:TypeId} {x:Operand} {fi:Nat} {fs:Array Field} {fd:Field} {k:Nat} {cells cs:List Value} (hu:P.underlying s=some (.struct fs)) (hf:fs[fi]? =some fd) (ht:Ty P fd.type k true)
    (h:vz m x=some (.agg cells.toArray)) (hc:JL cells fd.offset k cs):PV P n ⟨d,.field s x fi,ty,ps,af,gd⟩ m (.agg cs.toArray):=fun a w f=>by
  simp [execOp,Instr.field,run_underlying hu,hf,f.ev h,asAgg,W7 ht hc]
theorem jT {s:TypeId} {x:Operand} {fi:Nat} {fs:Array Field} {fd:Field} {k:Nat} {cells:List Value} {v:Value} (hu:P.underlying s=some (.struct fs)) (hf:fs[fi]? =some fd) (ht:Ty P fd.type k false)
    (h:vz m x=some (.agg cells.toArray)) (hc:cells[fd.offset]? =some v):PV P n ⟨d,.field s x fi,ty,ps,af,gd⟩ m v:=fun a w f=>by
  simp [execOp,Instr.field,run_underlying hu,hf,f.ev h,asAgg,VQ ht hc]
theorem J2 {s e:TypeId} {x ix:Operand} {k len i:Nat} {kk:IntKind} {cells cs:List Value} (hu:P.underlying s=some (.array len e)) (ht:Ty P e k true)
    (h:vz m x=some (.agg cells.toArray)) (hi:vz m ix=some (.int kk (i:Int))) (hl:i<len) (hc:JL cells (i*k) k cs):PV P n ⟨d,.index s x ix,ty,ps,af,gd⟩ m (.agg cs.toArray):=fun a w f=>by
  have:(i:Int)<(len:Int):=Oo
  simp [execOp,Instr.index,asIntOf,run_underlying hu,f.ev h,f.ev hi,hl,ht.run_size,W7 ht hc]
theorem ZO {s e:TypeId} {x ix:Operand} {len i:Nat} {kk:IntKind} {cells:List Value} {v:Value} (hu:P.underlying s=some (.array len e)) (ht:Ty P e 1 false)
    (h:vz m x=some (.agg cells.toArray)) (hi:vz m ix=some (.int kk (i:Int))) (hl:i<len) (hc:cells[i]? =some v):PV P n ⟨d,.index s x ix,ty,ps,af,gd⟩ m v:=fun a w f=>by
  have:(i:Int)<(len:Int):=Oo
  simp [execOp,Instr.index,asIntOf,run_underlying hu,f.ev h,f.ev hi,hl,ht.run_size,VQ ht hc]
theorem zb {s:TypeId} {x:Operand} {fi b o o' k:Nat} {fs:Array Field} {fd:Field} (hu:P.underlying s=some (.struct fs)) (hf:fs[fi]? =some fd) (ht:(P.info? fd.type).map (·.size)=some (k+1))
    (h:vz m x=some (.pointer (some ⟨b,o,none⟩))) (ho:o+fd.offset=o'):PV P n ⟨d,.fieldAddr s x fi,ty,ps,af,gd⟩ m (.pointer (some ⟨b,o',none⟩)):=fun a w f=>by
  simp [execOp,Instr.fieldAt,run_underlying hu,hf,f.ev h,Instr.sureAddr,fieldPlace,v7 ht,Addr.add_lit,ho]
theorem zR {s e:TypeId} {x ix:Operand} {b o o' k len i:Nat} {kk:IntKind} (hu:P.underlying s=some (.array len e)) (ht:(P.info? e).map (·.size)=some k)
    (h:vz m x=some (.pointer (some ⟨b,o,none⟩))) (hi:vz m ix=some (.int kk (i:Int))) (hl:i<len) (ho:o+i*k=o'):PV P n ⟨d,.indexAddr s x ix,ty,ps,af,gd⟩ m (.pointer (some ⟨b,o',none⟩)):=fun a w f=>by
  have:(i:Int)<(len:Int):=Oo
  simp [execOp,Instr.indexAt,asIntOf,run_underlying hu,f.ev h,f.ev hi,Instr.sureAddr,hl,v7 ht,Addr.add_lit,ho]
def Wu (cells:List Value) (off:Nat) (news cells':List Value):Prop:=off+news.length≤cells.length∧cells'=cells.take off++news++cells.drop (off+news.length)
theorem Wu.nil {cells:List Value}:Wu cells 0 [] cells:=⟨by simp,by simp⟩
theorem Wu.take {cells news cells':List Value} {u v:Value} (h:Wu cells 0 news cells'):Wu (u :: cells) 0 (v :: news) (v :: cells'):=
  ⟨by have:=h.1;simp at *;omega,by have:=h.2;simp at *;exact this⟩
theorem Wu.skip {cells news cells':List Value} {off:Nat} {u:Value} (h:Wu cells off news cells'):Wu (u :: cells) (off+1) news (u :: cells'):=
  ⟨by have:=h.1;simp at *;omega,by
    have:=h.2
    rw [this,show off+1+news.length=(off+news.length)+1 by omega]
    simp⟩
end
end Sp
namespace Sp
open Go
theorem Vz {w:World} {g:Hp} {o:Obj} (h1:Has w Hp.emp) (hg:Has w g) {A:As} (hA:A.on g (Hp.single w.heap.size o)):vR ⟨w,Hp.emp,g⟩ (w.alloc o) [A] []:=by
  have hgn:g w.heap.size=none:=by
    cases e:g w.heap.size with
    |none=>rfl
    |some x=>have:=hg.lt (b:=w.heap.size) (by rw [e];simp);omega
  refine ⟨Hp.single w.heap.size o,g,⟨_,Hp.emp,fun _=> .inr rfl,(Hp.join_emp _).symm,hA,rfl⟩,trivial,?_,?_,?_,Hp.le_refl _,?_,?_,?_⟩
  · intro b
    by_cases hb:b=w.heap.size
    · subst hb;exact .inr hgn
    · exact .inl (by simp [Hp.single,hb])
  · intro b x e
    unfold Hp.single at e
    split at e
    · rename_i hb;subst hb;cases e;exact heap_alloc_new w _
    · cases e
  · intro b x e
    have hlt:=hg.lt (b:=b) (by rw [e];simp)
    rw [heap_alloc_old w o hlt];exact hg _ _ e
  · intro b e n;exact absurd e n
  · intro b e n
    unfold Hp.single at n
    split at n
    · rename_i hb;subst hb;exact yz _
    · exact absurd rfl n
  · exact ⟨rfl,rfl,rfl,by simp,fun b hb _=>heap_alloc_old w o hb⟩
theorem zch {w w':World} {D G:Hp} {O:List As} {R:List Fa} (m:vR ⟨w.drew,D,G⟩ w' O R):vR ⟨w,D,G⟩ w' O R:=by
  obtain ⟨h,g,m⟩:=m
  exact ⟨h,g,m.sep,m.holds,m.apart,m.hasH,m.hasG,m.le,m.newG,m.newH,⟨m.kept.os,m.kept.tape,m.kept.output,m.kept.size,m.kept.block⟩⟩
theorem Wc {w w':World} {g:Hp} {b:Nat} {o o':Obj} (ha:(Hp.single b o).apart g) (hh:Has w (Hp.single b o)) (hg:Has w g) {A:As} (hA:A.on g (Hp.single b o'))
    (h0:w'.heap[b]? =some o') (h1:∀k,k≠b→w'.heap[k]? =w.heap[k]?) (h2:w'.heap.size=w.heap.size) (h3:w'.os=w.os) (h4:w'.tape=w.tape) (h5:w'.output=w.output):vR ⟨w,Hp.single b o,g⟩ w' [A] []:=by
  have hgb:g b=none:=by
    rcases ha b with x|x
    · rw [Hp.single_self] at x;cases x
    · exact x
  refine ⟨Hp.single b o',g,⟨_,Hp.emp,fun _=> .inr rfl,(Hp.join_emp _).symm,hA,rfl⟩,trivial,?_,?_,?_,Hp.le_refl _,?_,?_,?_⟩
  · intro k
    by_cases hk:k=b
    · subst hk;exact .inr hgb
    · exact .inl (by simp [Hp.single,hk])
  · intro k x e
    unfold Hp.single at e
    split at e
    · rename_i hk;subst hk;cases e;exact h0
    · cases e
  · intro k x e
    have hk:k≠b:=fun hk=>by subst hk;rw [hgb] at e;cases e
    rw [h1 k hk];exact hg _ _ e
  · intro k e n;exact absurd e n
  · intro k e n
    unfold Hp.single at n
    split at n
    · rename_i hk;subst hk;simp only at e;rw [Hp.single_self] at e;cases e
    · exact absurd rfl n
  · refine ⟨h3, h4, h5, by simp only; omega, fun k _ e => ?_⟩
    by_cases hk:k=b
    · subst hk;simp only at e;rw [Hp.single_self] at e;cases e
    · exact h1 k hk
def zK (b:Nat) (T:TypeId) (cells:List Value):As:=⟨fun _ h=>h=Hp.single b (.cells cells.toArray T (0,0)),fun _ _ _ _ h=>h⟩
def emA:As:=⟨fun _ h=>h=Hp.emp,fun _ _ _ _ h=>h⟩
def AtP (g:Hp) (b o:Nat) (cs:List Value):Prop:=∃cells T fz,g b=some (.cells cells T fz)∧∀j v,cs[j]? =some v→cells[o+j]? =some v
theorem AtP.mono {g g':Hp} (l:g.le g') {b o:Nat} {cs:List Value}:AtP g b o cs→AtP g' b o cs:=fun ⟨cells,T,fz,e,h⟩=>⟨cells,T,fz,l _ _ e,h⟩
def j8 (b o:Nat) (cs:List Value):Fa:=⟨fun g=>AtP g b o cs,fun _ _ l h=>h.mono l⟩
theorem AtP.cell {g:Hp} {w:World} (hg:Has w g) {b o:Nat} {cs:List Value} (h:AtP g b o cs):∀j v,cs[j]? =some v→w.cell? ⟨b,o+j,none⟩=some v:=by
  obtain ⟨cells,T,fz,e,hc⟩:=h
  intro j v hv
  have:=hg _ _ e
  simp [World.cell?,this,hc j v hv]
theorem QF {P:Program} {w:World} {t:TypeId} {k:Nat} (ht:Ty P t k true) {b o:Nat} {cs:List Value} (hl:cs.length=k) (h:∀j v,cs[j]? =some v→w.cell? ⟨b,o+j,none⟩=some v):
    (loadVar t ⟨b,o,none⟩).run P w= .ok (.agg cs.toArray) w:=by
  subst hl
  have:=run_loadCells_list (P:=P) (w:=w) ⟨b,o,none⟩ cs (fun j v e=>by rw [Addr.add_lit];exact h j v e)
  simp [loadVar,ht.run_agg,ht.run_size,this]
theorem QG {P:Program} {w:World} {t:TypeId} {k:Nat} (ht:Ty P t k false) {b o:Nat} {v:Value} (h:w.cell? ⟨b,o,none⟩=some v):
    (loadVar t ⟨b,o,none⟩).run P w= .ok v w:=by
  simp [loadVar,ht.run_agg,h]
theorem W9 {g hh h1:Hp} {w:World} {b:Nat} {T:TypeId} {cells:List Value} (hw:Has w hh) (l:h1.le hh) (hb:(zK b T cells).on g h1):∀j v,cells[j]? =some v→w.cell? ⟨b,j,none⟩=some v:=by
  intro j v e
  have hb':h1=Hp.single b (.cells cells.toArray T (0,0)):=hb
  subst hb'
  have:=hw _ _ (l _ _ (Hp.single_self _ _))
  simp [World.cell?,this,e]
section
variable {P : Program} {Q : Exit → Act → World → Prop} {c : Cx} {n : Sz} {ro : Option Nat} {ops : Array Oper} {l : List Oper} {m : Fm} {O : List As} {R : List Fa}
variable {d : Option Tmp} {ty : TypeId} {ps : String} {af : Array Edge} {gd : Option (Nat × Bool)}
theorem za {t:TypeId} {x:Operand} (i:Nat) {b off k:Nat} {T:TypeId} {cells cs:List Value} (ht:Ty P t k true) (h:vz m x=some (.pointer (some ⟨b,off,none⟩))) (hi:O[i]? =some (zK b T cells)) (hs:JL cells off k cs):
    Vl P n ⟨d,.load t x,ty,ps,af,gd⟩ m O R (Y:=Unit) (fun _=>True) (fun _=> .agg cs.toArray) (fun _=>[]):=fun a f hh g s r=>by
  obtain ⟨h1,h2,ap,e,hb,_,_⟩:=vG.pick i hi s
  refine ⟨(),trivial,trivial,fun w hw hg=> ?_⟩
  have hc:=W9 hw (by rw [e];exact Hp.le_joinL _ _) hb
  have:=QF (P:=P) (w:=w) (b:=b) (o:=off) ht hs.1 (fun j v e=>hc _ _ (hs.2 j v e))
  simp [execOp,Instr.loadAt,Instr.sureAddr,f.ev h,this]
theorem zc {t:TypeId} {x:Operand} (i:Nat) {b off k:Nat} {T:TypeId} {cells:List Value} {v:Value} (ht:Ty P t k false) (h:vz m x=some (.pointer (some ⟨b,off,none⟩))) (hi:O[i]? =some (zK b T cells)) (hs:cells[off]? =some v):
    Vl P n ⟨d,.load t x,ty,ps,af,gd⟩ m O R (Y:=Unit) (fun _=>True) (fun _=>v) (fun _=>[]):=fun a f hh g s r=>by
  obtain ⟨h1,h2,ap,e,hb,_,_⟩:=vG.pick i hi s
  refine ⟨(),trivial,trivial,fun w hw hg=> ?_⟩
  have hc:=W9 hw (by rw [e];exact Hp.le_joinL _ _) hb
  have:=QG (P:=P) (w:=w) (b:=b) (o:=off) ht (hc _ _ hs)
  simp [execOp,Instr.loadAt,Instr.sureAddr,f.ev h,this]
theorem zA {t:TypeId} {x:Operand} (i:Nat) {b off o j k:Nat} {cells cs:List Value} (ht:Ty P t k true) (h:vz m x=some (.pointer (some ⟨b,off,none⟩))) (hi:R[i]? =some (j8 b o cells)) (ho:off=o+j) (hs:JL cells j k cs):
    Vl P n ⟨d,.load t x,ty,ps,af,gd⟩ m O R (Y:=Unit) (fun _=>True) (fun _=> .agg cs.toArray) (fun _=>[]):=fun a f hh g s r=>by
  have hat:AtP g b o cells:=Holds.get i hi r
  refine ⟨(),trivial,trivial,fun w hw hg=> ?_⟩
  have hc:=hat.cell hg
  have:=QF (P:=P) (w:=w) (b:=b) (o:=off) ht hs.1 (fun q v e=>by rw [ho,yQ];exact hc _ _ (hs.2 q v e))
  simp [execOp,Instr.loadAt,Instr.sureAddr,f.ev h,this]
theorem zf {t:TypeId} {x:Operand} (i:Nat) {b off o j k:Nat} {cells:List Value} {v:Value} (ht:Ty P t k false) (h:vz m x=some (.pointer (some ⟨b,off,none⟩))) (hi:R[i]? =some (j8 b o cells)) (ho:off=o+j) (hs:cells[j]? =some v):
    Vl P n ⟨d,.load t x,ty,ps,af,gd⟩ m O R (Y:=Unit) (fun _=>True) (fun _=>v) (fun _=>[]):=fun a f hh g s r=>by
  have hat:AtP g b o cells:=Holds.get i hi r
  refine ⟨(),trivial,trivial,fun w hw hg=> ?_⟩
  have:=QG (P:=P) (w:=w) (b:=b) (o:=off) ht (by rw [ho];exact hat.cell hg _ _ hs)
  simp [execOp,Instr.loadAt,Instr.sureAddr,f.ev h,this]
theorem r_u {op:Op} {t:Tmp} (hw:j3 ops m ⟨some t,op,ty,ps,af,gd⟩=some true) (hd:yf (t+1) n.sz=true) {v:Value} (h:Vl P n ⟨some t,op,ty,ps,af,gd⟩ m O R (Y:=Unit) (fun _=>True) (fun _=>v) (fun _=>[]))
    (k:ve (ro:=ro) P ops Q c n l ((t,v) :: m) O R):ve (ro:=ro) P ops Q c n (⟨some t,op,ty,ps,af,gd⟩ :: l) m O R:=zdA hw hd h (fun _ _=>k)
theorem zo {T:TypeId} {z:Value} {cells:List Value} (hz:jY P T z) (hc:z.cells=cells.toArray):
    Ef P n ⟨d,.alloc T,ty,ps,af,gd⟩ m [] R (Y:=Nat) (fun _=>True) (fun b=> .pointer (some ⟨b,0,none⟩)) (fun b=>[zK b T cells]) (fun _=>[]):=by
  intro a f w hh g s r ap h1 h2 K Q hK
  have e:hh=Hp.emp:=s
  subst e
  have hrun:(execOp a.eval ⟨d,.alloc T,ty,ps,af,gd⟩).run P w= .ok (.value (.pointer (some ⟨w.heap.size,0,none⟩))) (w.alloc (.cells cells.toArray T (0,0))):=by
    simp [execOp,Instr.alloc,Vg hz,newVar,newRow,hc]
  refine Zh hrun ?_
  exact hK w.heap.size _ trivial (Vz h1 h2 rfl)
theorem zX {T:TypeId} {x:Operand} {v:Value} {cells:List Value} (hx:vz m x=some v) (hc:v.cells=cells.toArray):
    Ef P n ⟨d,.box T x,ty,ps,af,gd⟩ m [] R (Y:=Nat) (fun _=>True) (fun b=> .pointer (some ⟨b,0,none⟩)) (fun b=>[zK b T cells]) (fun _=>[]):=by
  intro a f w hh g s r ap h1 h2 K Q hK
  have e:hh=Hp.emp:=s
  subst e
  have hrun:(execOp a.eval ⟨d,.box T x,ty,ps,af,gd⟩).run P w= .ok (.value (.pointer (some ⟨w.heap.size,0,none⟩))) (w.alloc (.cells cells.toArray T (0,0))):=by
    simp [execOp,Instr.box,newVar,newRow,f.ev hx,hc]
  refine Zh hrun ?_
  exact hK w.heap.size _ trivial (Vz h1 h2 rfl)
theorem zlU {op:Op} {t:Tmp} {T:TypeId} {cells:List Value} (hw:j3 ops m ⟨some t,op,ty,ps,af,gd⟩=some true) (hd:yf (t+1) n.sz=true)
    (h:Ef P n ⟨some t,op,ty,ps,af,gd⟩ m [] R (Y:=Nat) (fun _=>True) (fun b=> .pointer (some ⟨b,0,none⟩)) (fun b=>[zK b T cells]) (fun _=>[]))
    (k:∀b,ve (ro:=ro) P ops Q c n l ((t,.pointer (some ⟨b,0,none⟩)) :: m) (zK b T cells :: O) R):ve (ro:=ro) P ops Q c n (⟨some t,op,ty,ps,af,gd⟩ :: l) m O R:=
  Zy hw hd h (fun b _=>k b)
theorem zB {op:Op} {t:Tmp} {T:TypeId} {cells:List Value} (h:Ef P n ⟨some t,op,ty,ps,af,gd⟩ m [] R (Y:=Nat) (fun _=>True) (fun b=> .pointer (some ⟨b,0,none⟩)) (fun b=>[zK b T cells]) (fun _=>[])) (k:∀b,ve (ro:=ro) P ops Q c n l ((t,.pointer (some ⟨b,0,none⟩)) :: m) (zK b T cells :: O) R) (hw:j3 ops m ⟨some t,op,ty,ps,af,gd⟩=some true:=by exact rfl) (hd:yf (t+1) n.sz=true:=by exact rfl):ve (ro:=ro) P ops Q c n (⟨some t,op,ty,ps,af,gd⟩ :: l) m O R:=zlU hw hd h k
theorem zaa {T t:TypeId} {x y:Operand} {b off:Nat} {v:Value} {cells news cells':List Value} (hx:vz m x=some (.pointer (some ⟨b,off,none⟩))) (hy:vz m y=some v) (hv:v.cells=news.toArray)
    (ht:(P.info? t).map (·.size)=some news.length) (h1:news.all (·.oneCell')=true) (hu:Wu cells off news cells'):
    Ef P n ⟨none,.store t x y,ty,ps,af,gd⟩ m [zK b T cells] R (Y:=Unit) (fun _=>True) (fun _=>undef) (fun _=>[zK b T cells']) (fun _=>[]):=by
  intro a f w hh g s r ap hw hg K Q hK
  obtain ⟨k1,k2,a1,e1,hb,e2⟩:=s
  have hk2:k2=Hp.emp:=e2
  have hb':k1=Hp.single b (.cells cells.toArray T (0,0)):=hb
  subst hk2;subst hb'
  rw [Hp.join_emp] at e1
  subst e1
  have hblk:=hw _ _ (Hp.single_self _ _)
  have hst:=run_storeCells_at P b off T news 0 cells.toArray w hblk (by have:=hu.1;simpa using this) (by simpa using h1)
  have hrow:(cells.toArray.toList.take (off+0)++news++cells.toArray.toList.drop (off+0+news.length)).toArray=cells'.toArray:=by rw [hu.2];simp
  rw [hrow] at hst
  have hrun:(execOp a.eval ⟨none,.store t x y,ty,ps,af,gd⟩).run P w= .ok .skip (w.setRow b cells'.toArray):=by
    simp [execOp,Instr.storeAt,Instr.sureAddr,storeVar,f.ev hx,f.ev hy,hv,v7 ht,hst]
  refine zbN (fun c e=>by cases e) hrun ?_
  refine hK () _ trivial (Wc ap hw hg (A:=zK b T cells') rfl (setRow_heap w b _ _ T _ hblk) (fun k hk=>setRow_other w b k _ hk) (by simp) rfl rfl rfl)
theorem VR (i:Nat) {T t:TypeId} {x y:Operand} {b off:Nat} {v:Value} {cells news cells':List Value} {O2:List As} (hw:j3 ops m ⟨none,.store t x y,ty,ps,af,gd⟩=some true)
    (hx:vz m x=some (.pointer (some ⟨b,off,none⟩))) (hy:vz m y=some v) (hi:O[i]? =some (zK b T cells)) (hv:v.cells=news.toArray)
    (ht:(P.info? t).map (·.size)=some news.length) (h1:news.all (·.oneCell')=true) (hu:Wu cells off news cells') (hs:Qp i O (zK b T cells') O2)
    (k:ve (ro:=ro) P ops Q c n l m O2 R):ve (ro:=ro) P ops Q c n (⟨none,.store t x y,ty,ps,af,gd⟩ :: l) m O R:=
  Zz (A':=fun _=>zK b T cells') (O2:=fun _=>O2) i hi hw rfl (zaa hx hy hv ht h1 hu) (fun _=>hs) (fun _ _=>k)
theorem zh (i:Nat) {T t:TypeId} {x y:Operand} {b off:Nat} {v:Value} {cells news cells':List Value} {O2:List As} (hx:vz m x=some (.pointer (some ⟨b,off,none⟩))) (hy:vz m y=some v) (hi:O[i]? =some (zK b T cells)) (hv:v.cells=news.toArray) (ht:(P.info? t).map (·.size)=some news.length) (hu:Wu cells off news cells') (hs:Qp i O (zK b T cells') O2) (k:ve (ro:=ro) P ops Q c n l m O2 R) (hw:j3 ops m ⟨none,.store t x y,ty,ps,af,gd⟩=some true:=by exact rfl) (h1:news.all (·.oneCell')=true:=by exact rfl):ve (ro:=ro) P ops Q c n (⟨none,.store t x y,ty,ps,af,gd⟩ :: l) m O R:=VR i hw hx hy hi hv ht h1 hu hs k
theorem zy (i:Nat) {s T t:TypeId} {b k:Nat} {off:Nat} {cells cs:List Value} (ht:Ty P t k true) (h:lk m s=some (.pointer (some ⟨b,off,none⟩))) (hi:O[i]? =some (zK b T cells)) (hs:JL cells off k cs):
    W6 P n m O R (.cell s t) (.agg cs.toArray):=fun c a w f mm=>by
  obtain ⟨hh,g,mm⟩:=mm
  obtain ⟨h1,h2,ap,e,hb,_,_⟩:=vG.pick i hi mm.sep
  have hc:=W9 mm.hasH (by rw [e];exact Hp.le_joinL _ _) hb
  have:=QF (P:=P) (w:=w) (b:=b) (o:=off) ht hs.1 (fun j v e=>hc _ _ (hs.2 j v e))
  have hs':a.tmps.getD s undef= .pointer (some ⟨b,off,none⟩):=by simp [yd,f.tmp _ _ h]
  simp only [WE,hs',asAddr,Sem.run_bind,Sem.run_pure,Result.andThen_ok,this]
theorem Js (i:Nat) {s T t:TypeId} {b k off:Nat} {cells:List Value} {v:Value} (ht:Ty P t k false) (h:lk m s=some (.pointer (some ⟨b,off,none⟩))) (hi:O[i]? =some (zK b T cells)) (hs:cells[off]? =some v):
    W6 P n m O R (.cell s t) v:=fun c a w f mm=>by
  obtain ⟨hh,g,mm⟩:=mm
  obtain ⟨h1,h2,ap,e,hb,_,_⟩:=vG.pick i hi mm.sep
  have hc:=W9 mm.hasH (by rw [e];exact Hp.le_joinL _ _) hb
  have:=QG (P:=P) (w:=w) (b:=b) (o:=off) ht (hc _ _ hs)
  have hs':a.tmps.getD s undef= .pointer (some ⟨b,off,none⟩):=by simp [yd,f.tmp _ _ h]
  simp only [WE,hs',asAddr,Sem.run_bind,Sem.run_pure,Result.andThen_ok,this]
theorem foldl_set (off:Nat):∀(vs:List Value) (k:Nat) (cells:List Value),off+k+vs.length≤cells.length→
    (vs.zipIdx k).foldl (fun (cs:Array Value) (p:Value×Nat)=>cs.setIfInBounds (off+p.2) p.1) cells.toArray=(cells.take (off+k)++vs++cells.drop (off+k+vs.length)).toArray
  |[],k,cells,h=>by simp
  |v :: vs,k,cells,h=>by
    simp only [List.zipIdx_cons,List.foldl_cons,List.setIfInBounds_toArray]
    rw [foldl_set off vs (k+1) (cells.set (off+k) v) (by simp at h ⊢;omega)]
    congr 1
    have hlt:off+k<cells.length:=by simp at h;omega
    apply List.ext_getElem?
    intro j
    simp only [yw,ye,ym,List.length_set,yq,List.getElem?_set,yr,yn]
    have e1:min (off+(k+1)) cells.length=off+k+1:=Oo
    have e2:min (off+k) cells.length=off+k:=Oo
    rw [e1,e2]
    by_cases h1:j<off+k
    · have h2 : j < off + k + 1 := by omega
      have h3:¬off+k=j:=Oo
      have h4:j<off+(k+1):=Oo
      simp [h1,h2,h3,h4]
    · by_cases h2 : j = off + k
      · subst h2
        simp [hlt]
      · have h3 : ¬ j < off + k + 1 := by omega
        simp only [h1,h3,if_false]
        have e3:j - (off+k)=(j - (off+k+1))+1:=Oo
        rw [e3,List.getElem?_cons_succ]
        by_cases h4:j - (off+k+1)<vs.length
        · have h5 : j - (off + k + 1) + 1 < vs.length + 1 := by omega
          simp [h4,h5]
        · have h5 : ¬ (j - (off + k + 1) + 1 < vs.length + 1) := by omega
          have h6:¬off+k=off+(k+1)+vs.length+(j - (off+k+1) - vs.length):=Oo
          simp only [h4,h5,if_false]
          rw [if_neg h6]
          congr 1
          omega
def zaV (place:Nat→Option (Nat×Nat)):List Value→List (Nat×Value)→List Value→Prop
  |cells,[],out=>out=cells
  |cells,(i,v) :: rest,out=>∃off size news cells1,place i=some (off,size)∧v.cells=news.toArray∧news.length=size∧Wu cells off news cells1∧zaV place cells1 rest out
theorem zbO {place:Nat→Option (Nat×Nat)}:∀{parts:List (Nat×Value)} {cells out:List Value},zaV place cells parts out→Instr.fill place cells.toArray parts=some out.toArray
  |[],cells,out,h=>by have:out=cells:=h;subst this;rfl
  |(i,v) :: rest,cells,out,⟨off,size,news,cells1,h1,h2,h3,h4,h5⟩=>by
    have hb:=h4.1
    have e:=foldl_set off news 0 cells (by simpa using hb)
    have hn1:¬(news.length≠size):=Oo
    have hn2:¬(off+news.length>cells.length):=Oo
    simp only [Instr.fill,h1,h2,yv]
    rw [if_neg (by simp [h3];omega)]
    have e':Array.foldl (fun cs x=>match x with|(c,j)=>Array.setIfInBounds cs (off+j) c) cells.toArray news.toArray.zipIdx=cells1.toArray:=by
      have hz:news.toArray.zipIdx=news.zipIdx.toArray:=by apply Array.ext';simp
      rw [hz,List.foldl_toArray,h4.2]
      simpa using e
    rw [e']
    exact zbO h5
def evp (m:Fm):List (Nat×Operand)→List (Nat×Value)→Prop
  |[],[]=>True
  |(i,x) :: xs,(j,v) :: vs=>i=j∧vz m x=some v∧evp m xs vs
  |_,_=>False
theorem evp.map {a:Act} (f:Fr n a m):∀{xs:List (Nat×Operand)} {vs:List (Nat×Value)},evp m xs vs→xs.map (fun p=>(p.1,a.eval p.2))=vs
  |[],[],_=>rfl
  |(i,x) :: xs,(j,v) :: vs,⟨h0,h1,h2⟩=>by subst h0;simp [f.ev h1,evp.map f h2]
def KC (P:Program):List Field→List (Nat×Nat)→Prop
  |[],[]=>True
  |f :: fs,p :: ps=>p.1=f.offset∧(P.info? f.type).map (·.size)=some p.2∧KC P fs ps
  |_,_=>False
theorem run_places {w:World}:∀{fs:List Field} {pl:List (Nat×Nat)},KC P fs pl→(fs.mapM (fun f=>Functor.map (Prod.mk f.offset) (sizeOf f.type):Field→Sem (Nat×Nat))).run P w= .ok pl w
  |[],[],_=>by simp
  |f :: fs,(o,s) :: pl,⟨h1,h2,h3⟩=>by
    have:=run_places (w:=w) h3
    simp only at h1 h2;subst h1
    simp only [List.mapM_cons,Sem.run_bind,Sem.run_map,v7 h2,Result.andThen_ok,Sem.run_pure,this]
theorem qr {t:TypeId} {parts:List (Nat×Operand)} {vs:List (Nat×Value)} {z:Value} {cells out:List Value} {fs:List Field} {pl:List (Nat×Nat)} (hz:jY P t z) (hc:z.cells=cells.toArray) (hu:P.underlying t=some (.struct fs.toArray)) (hp:KC P fs pl)
    (hx:evp m parts vs) (hf:zaV (fun i=>pl[i]?) cells vs out):PV P n ⟨d,.build t parts.toArray,ty,ps,af,gd⟩ m (.agg out.toArray):=fun a w f=>by
  have e:=evp.map f hx
  have hfill:=zbO hf
  have hparts:(Array.map (fun x:Nat×Operand=>match x with|(i,x)=>(i,a.eval x)) parts.toArray)=vs.toArray:=by rw [yx];congr 1
  have hpl:=run_places (w:=w) hp
  have hfn:(fun i:Nat=>(pl.toArray)[i]?)=(fun i:Nat=>pl[i]?):=by funext i;simp
  simp only [execOp,hparts,Instr.build,Sem.run_bind,Vg hz,Result.andThen_ok,hc,run_underlying hu]
  rw [List.mapM_toArray]
  simp [hpl,hfill]
theorem jz {t e:TypeId} {len k:Nat} {parts:List (Nat×Operand)} {vs:List (Nat×Value)} {z:Value} {cells out:List Value} (hz:jY P t z) (hc:z.cells=cells.toArray) (hu:P.underlying t=some (.array len e)) (hk:(P.info? e).map (·.size)=some k)
    (hx:evp m parts vs) (hf:zaV (fun i=>some (i*k,k)) cells vs out):PV P n ⟨d,.build t parts.toArray,ty,ps,af,gd⟩ m (.agg out.toArray):=fun a w f=>by
  have e:=evp.map f hx
  have hfill:=zbO hf
  have hparts:(Array.map (fun x:Nat×Operand=>match x with|(i,x)=>(i,a.eval x)) parts.toArray)=vs.toArray:=by rw [yx];congr 1
  simp [execOp,hparts,Instr.build,Vg hz,hc,run_underlying hu,v7 hk,hfill]
end
end Sp
namespace Sp
open Go
structure Rp (α:Type) where
  sz:Nat
  G:Type
  enc:α→G→List Value
  ok:Hp→α→G→Prop
  mono:∀g g' x γ,g.le g'→ok g x γ→ok g' x γ
  len:∀x γ,(enc x γ).length=sz
  one:∀x γ,(enc x γ).all (·.oneCell')=true
def Vb (k:IntKind) (z:Int):Prop:=k.min≤z∧z≤k.max
def fl {α:Type} (sz:Nat) (enc:α→List Value) (ok:α→Prop) (len:∀x,(enc x).length=sz) (one:∀x,(enc x).all (·.oneCell')=true):Rp α:=
  ⟨sz,Unit,fun x _=>enc x,fun _ x _=>ok x,fun _ _ _ _ _ h=>h,fun x _=>len x,fun x _=>one x⟩
def rI (k:IntKind):Rp Int:=fl 1 (fun z=>[.int k z]) (Vb k) (fun _=>rfl) (fun _=>rfl)
def rB:Rp Bool:=fl 1 (fun b=>[.bool b]) (fun _=>True) (fun _=>rfl) (fun _=>rfl)
def rI2 (k:IntKind):Rp (Int×Int):=fl 2 (fun z=>[.int k z.1,.int k z.2]) (fun z=>Vb k z.1∧Vb k z.2) (fun _=>rfl) (fun _=>rfl)
def rI3 (k:IntKind):Rp (Int×Int×Int):=fl 3 (fun z=>[.int k z.1,.int k z.2.1,.int k z.2.2]) (fun z=>Vb k z.1∧Vb k z.2.1∧Vb k z.2.2) (fun _=>rfl) (fun _=>rfl)
def okF {α:Type} (r:Rp α) (x:α) (γ:r.G):Fa:=⟨fun g=>r.ok g x γ,fun _ _ l h=>r.mono _ _ _ _ l h⟩
def Sl {α:Type} (r:Rp α) (g:Hp) (p:Option Addr) (cap:Nat) (l:List α):Prop:=
  l.length≤cap∧cap≤maxLen∧(p=none→cap=0)∧∀(i:Nat) (x:α),l[i]? =some x→∃b off γ,p=some ⟨b,off,none⟩∧AtP g b (off+i*r.sz) (r.enc x γ)∧r.ok g x γ
theorem Sl.mono {α:Type} {r:Rp α} {g g':Hp} (h:g.le g') {p:Option Addr} {cap:Nat} {l:List α} (s:Sl r g p cap l):Sl r g' p cap l:=
  ⟨s.1,s.2.1,s.2.2.1,fun i x e=>let ⟨b,off,γ,e1,e2,e3⟩:=s.2.2.2 i x e;⟨b,off,γ,e1,e2.mono h,r.mono _ _ _ _ h e3⟩⟩
def zI {α:Type} (r:Rp α) (p:Option Addr) (cap:Nat) (l:List α):Fa:=⟨fun g=>Sl r g p cap l,fun _ _ h s=>s.mono h⟩
def rS {α:Type} (r:Rp α):Rp (List α):=
  ⟨1,Option Addr×Nat,fun l γ=>[.slice γ.1 l.length γ.2],fun g l γ=>Sl r g γ.1 γ.2 l,fun _ _ _ _ h s=>s.mono h,fun _ _=>rfl,fun _ _=>rfl⟩
def rP {α β:Type} (r:Rp α) (s:Rp β):Rp (α×β):=
  ⟨r.sz+s.sz,r.G×s.G,fun x γ=>r.enc x.1 γ.1++s.enc x.2 γ.2,fun g x γ=>r.ok g x.1 γ.1∧s.ok g x.2 γ.2,fun _ _ _ _ h k=>⟨r.mono _ _ _ _ h k.1,s.mono _ _ _ _ h k.2⟩,
    fun x γ=>by simp [r.len,s.len],fun x γ=>by rw [List.all_append,r.one,s.one];rfl⟩
theorem Sl.nil {α:Type} (r:Rp α) (g:Hp):Sl r g none 0 []:=⟨yz _,Nat.zero_le _,fun _=>rfl,fun i x e=>by simp at e⟩
theorem Sl.flat {α:Type} {r:Rp α} {g:Hp} {p:Option Addr} {cap:Nat} {l:List α} (s:Sl r g p cap l) (hne:l≠[]):
    ∃b off news,p=some ⟨b,off,none⟩∧news.length=l.length*r.sz∧(∀w,Has w g→∀j u,news[j]? =some u→w.cell? ⟨b,off+j,none⟩=some u)∧(∀u∈news,u.oneCell'=true)∧
      ∀i x,l[i]? =some x→∃γ,JL news (i*r.sz) r.sz (r.enc x γ)∧r.ok g x γ:=by
  obtain ⟨b,off,γ0,hp,_,_⟩:=s.2.2.2 0 (l[0]'(by cases l;exact absurd rfl hne;simp)) (by cases l;exact absurd rfl hne;simp)
  have key:∀k,k≤l.length→∃news:List Value,news.length=k*r.sz∧(∀w,Has w g→∀j u,news[j]? =some u→w.cell? ⟨b,off+j,none⟩=some u)∧(∀u∈news,u.oneCell'=true)∧
      ∀i x,i<k→l[i]? =some x→∃γ,JL news (i*r.sz) r.sz (r.enc x γ)∧r.ok g x γ:=by
    intro k
    induction k with
    |zero=>exact fun _=>⟨[],by simp,fun _ _ _ _ e=>by simp at e,fun _ e=>by simp at e,fun _ _ e=>by omega⟩
    |succ k ih=>
      intro hk
      obtain ⟨news,h1,h2,h3,h4⟩:=ih Oo
      have hlt:k<l.length:=Oo
      obtain ⟨b',off',γ,hp',hat,hok⟩:=s.2.2.2 k l[k] (yh hlt)
      rw [hp] at hp'
      cases hp'
      refine ⟨news++r.enc l[k] γ,by rw [yk,h1,r.len,yt],?_,?_,?_⟩
      · intro w hw j u e
        rw [ye] at e
        split at e
        · exact h2 w hw j u e
        · rename_i hj
          have:=hat.cell hw _ _ e
          rw [h1] at hj this
          rw [show off+j=off+k*r.sz+(j - k*r.sz) by omega];exact this
      · intro u hu
        rcases List.mem_append.1 hu with hu|hu
        · exact h3 u hu
        · have := r.one l[k] γ
          rw [List.all_eq_true] at this
          exact this u hu
      · intro i x hi e
        by_cases hik:i<k
        · obtain ⟨γ', e1, e2⟩ := h4 i x hik e
          refine ⟨γ',⟨e1.1,fun j v ev=> ?_⟩,e2⟩
          have:=e1.2 j v ev
          rw [ye,if_pos (by exact (yb.1 this).1)]
          exact this
        · have : i = k := by omega
          subst this
          rw [yh hlt] at e
          cases e
          refine ⟨γ,⟨r.len _ _,fun j v ev=> ?_⟩,hok⟩
          rw [ye,if_neg Oo,h1]
          rw [show i*r.sz+j - i*r.sz=j by omega];exact ev
  obtain ⟨news,h1,h2,h3,h4⟩:=key l.length (yz _)
  exact ⟨b,off,news,hp,h1,h2,h3,fun i x e=>h4 i x (yb.1 e).1 e⟩
def Els {α:Type} (r:Rp α) (g:Hp) (cells:List Value) (off:Nat) (l:List α):Prop:=∀(i:Nat) (x:α),l[i]? =some x→∃γ,JL cells (off+i*r.sz) r.sz (r.enc x γ)∧r.ok g x γ
def Qv {α:Type} (T:TypeId) (r:Rp α) (p:Option Addr) (cap:Nat) (l:List α) (g h:Hp):Prop:=
  (p=none∧cap=0∧l=[]∧h=Hp.emp)∨
  ∃b off cells,p=some ⟨b,off,none⟩∧l.length≤cap∧cap≤maxLen∧off+cap*r.sz≤cells.length∧h=Hp.single b (.cells cells.toArray T (0,0))∧Els r g cells off l
def rowA {α:Type} (T:TypeId) (r:Rp α) (p:Option Addr) (cap:Nat) (l:List α):As:=
  ⟨Qv T r p cap l,fun g g' h hl s=>by
    rcases s with s|⟨b,off,cells,e1,e2,e3,e4,e5,e6⟩
    · exact .inl s
    · exact .inr ⟨b,off,cells,e1,e2,e3,e4,e5,fun i x e=>let ⟨γ,a1,a2⟩:=e6 i x e;⟨γ,a1,r.mono _ _ _ _ hl a2⟩⟩⟩
def ZZ (p:Option Addr) (o:Nat):Value:= .pointer (p.map fun a=>⟨a.block,a.off+o,none⟩)
theorem zbP {α:Type} {T:TypeId} {r:Rp α} {p:Option Addr} {cap:Nat} {l:List α} {g h:Hp} (s:Qv T r p cap l g h) (ap:h.apart g):Sl r (g.join h) p cap l:=by
  rcases s with ⟨rfl,rfl,rfl,rfl⟩|⟨b,off,cells,rfl,e2,e3,e4,rfl,e6⟩
  · exact Sl.nil r _
  · refine ⟨e2, e3, (fun e => by cases e), fun i x e => ?_⟩
    obtain ⟨γ,a1,a2⟩:=e6 i x e
    refine ⟨b,off,γ,rfl,⟨cells.toArray,T,(0,0),Hp.le_joinR (Hp.apart_symm ap) _ _ (Hp.single_self _ _),fun j v ev=> ?_⟩,r.mono _ _ _ _ (Hp.le_joinL _ _) a2⟩
    have:=a1.2 j v ev
    simpa using this
section
variable {P : Program} {Q : Exit → Act → World → Prop} {c : Cx} {n : Sz} {ro : Option Nat} {ops : Array Oper} {l : List Oper} {m : Fm} {O : List As} {R : List Fa}
variable {d : Option Tmp} {ty : TypeId} {ps : String} {af : Array Edge} {gd : Option (Nat × Bool)} {α : Type}
theorem vR.freeze {w:World} (i:Nat) {T:TypeId} {r:Rp α} {p:Option Addr} {cap:Nat} {xs:List α} {O2:List As} (hi:O[i]? =some (rowA T r p cap xs)) (hs:Qp i O emA O2) (mm:vR c w O R):vR c w O2 (zI r p cap xs :: R):=by
  obtain ⟨_,_,m'⟩:=vR.turn (X:=Unit) (φ:=fun _=>True) (A':=fun _=>emA) (R':=fun _=>[zI r p cap xs]) i hi (fun g h _ hA ap=>⟨(),Hp.emp,h,trivial,rfl,Hp.emp_apart h,rfl,zbP hA ap,trivial⟩) mm
  unfold Qp at hs;subst hs;exact m'
theorem qt (i:Nat) {T:TypeId} {r:Rp α} {p:Option Addr} {cap:Nat} {xs:List α} {O2:List As} (hi:O[i]? =some (rowA T r p cap xs)) (hs:Qp i O emA O2) (k:ve (ro:=ro) P ops Q c n l m O2 (zI r p cap xs :: R)):ve (ro:=ro) P ops Q c n l m O R:=
  fun a w f mm=>k a w f (mm.freeze i hi hs)
theorem Z7 {x:Code} (i:Nat) {T:TypeId} {r:Rp α} {p:Option Addr} {cap:Nat} {xs:List α} {O2:List As} (hi:O[i]? =some (rowA T r p cap xs)) (hs:Qp i O emA O2) (k:vm (ro:=ro) P Q c n x m O2 (zI r p cap xs :: R)):vm (ro:=ro) P Q c n x m O R:=
  fun a w f mm=>k a w f (mm.freeze i hi hs)
theorem vK {e:Exit} (i:Nat) {T:TypeId} {r:Rp α} {p:Option Addr} {cap:Nat} {xs:List α} {O2:List As} (hi:O[i]? =some (rowA T r p cap xs)) (hs:Qp i O emA O2) (k:jh c n Q e m O2 (zI r p cap xs :: R)):jh c n Q e m O R:=
  fun a w f mm=>k a w f (mm.freeze i hi hs)
theorem Z8 {s e:TypeId} {k:Nat} {a:Addr} {len cap:Nat} {kk:IntKind} {j:Nat} {w:World} (hu:P.underlying s=some (.slice e)) (ht:(P.info? e).map (·.size)=some k) (hl:j<len):
    (Instr.indexAt s (.slice (some a) len cap) (.int kk (j:Int))).run P w= .ok (.pointer (some (a.add (j*k)))) w:=by
  have:(j:Int)<(len:Int):=Oo
  simp [Instr.indexAt,asIntOf,run_underlying hu,hl,v7 ht]
theorem zM {s e:TypeId} {x ix:Operand} {r:Rp α} {p:Option Addr} {k cap:Nat} {kk:IntKind} {z:Int} {xs:List α} {x0:α} (i j:Nat) (hi:R[i]? =some (zI r p cap xs)) (hu:P.underlying s=some (.slice e)) (ht:(P.info? e).map (·.size)=some r.sz)
    (h1:vz m x=some (.slice p k cap)) (hk:xs.length=k) (h2:vz m ix=some (.int kk z)) (hz:z=(j:Int)) (hx:xs[j]? =some x0):
    Vl P n ⟨d,.indexAddr s x ix,ty,ps,af,gd⟩ m O R (Y:=Nat×Nat×r.G) (fun _=>True) (fun y=> .pointer (some ⟨y.1,y.2.1,none⟩)) (fun y=>[j8 y.1 y.2.1 (r.enc x0 y.2.2),okF r x0 y.2.2]):=fun a f hh g sp hr=>by
  have hs:Sl r g p cap xs:=Holds.get i hi hr
  obtain ⟨b,off,γ,e1,e2,e3⟩:=hs.2.2.2 j x0 hx
  refine ⟨(b,off+j*r.sz,γ),trivial,⟨e2,e3,trivial⟩,fun w _ _=> ?_⟩
  subst hz;subst e1
  have hlt:j<k:=by rw [← hk];exact (yb.1 hx).1
  have hrun:=Z8 (P:=P) (a:=⟨b,off,none⟩) (cap:=cap) (kk:=kk) (w:=w) hu ht hlt
  simp only [execOp,f.ev h1,f.ev h2,Sem.run_bind,hrun,Result.andThen_ok,Sem.run_pure,Addr.add_lit]
theorem QL {s e:TypeId} {x ix:Operand} {sz:Nat} {enc:α→List Value} {ok:α→Prop} {h1' h2'} {p:Option Addr} {k cap:Nat} {kk:IntKind} {z:Int} {xs:List α} {x0:α} (i j:Nat) (hi:R[i]? =some (zI (fl sz enc ok h1' h2') p cap xs)) (hu:P.underlying s=some (.slice e)) (ht:(P.info? e).map (·.size)=some sz)
    {tt:Tmp} (hw:j3 ops m ⟨some tt,.indexAddr s x ix,ty,ps,af,gd⟩=some true) (hd:yf (tt+1) n.sz=true) (h1:vz m x=some (.slice p k cap)) (hk:xs.length=k) (h2:vz m ix=some (.int kk z)) (hz:z=(j:Int)) (hx:xs[j]? =some x0)
    (kont:∀b o,ok x0→ve (ro:=ro) P ops Q c n l ((tt,.pointer (some ⟨b,o,none⟩)) :: m) O (j8 b o (enc x0) :: R)):ve (ro:=ro) P ops Q c n (⟨some tt,.indexAddr s x ix,ty,ps,af,gd⟩ :: l) m O R:=by
  refine zdA hw hd (zM (P:=P) (r:=fl sz enc ok h1' h2') i j hi hu ht h1 hk h2 hz hx) (fun y _=> ?_)
  refine zr7 (p:=ok x0) (fun g h=>(Holds.get 1 rfl h:(okF (fl sz enc ok h1' h2') x0 y.2.2).on g)) (fun hok=> ?_)
  intro a w f mm
  refine kont y.1 y.2.1 hok a w f ?_
  exact mm.weaken fun h g s r ap=>⟨h,g,s,⟨r.1,r.2.2⟩,Hp.le_refl _,Hp.le_refl _,ap,fun _ _ e=> .inl e⟩
theorem qH {s e:TypeId} {x ix:Operand} {sz:Nat} {enc:α→List Value} {ok:α→Prop} {h1' h2'} {p:Option Addr} {k cap:Nat} {kk:IntKind} {z:Int} {xs:List α} {x0:α} (i j:Nat) (hi:R[i]? =some (zI (fl sz enc ok h1' h2') p cap xs)) (hu:P.underlying s=some (.slice e)) (ht:(P.info? e).map (·.size)=some sz) {tt:Tmp} (h1:vz m x=some (.slice p k cap)) (hk:xs.length=k) (h2:vz m ix=some (.int kk z)) (hz:z=(j:Int)) (hx:xs[j]? =some x0) (kont:∀b o,ok x0→ve (ro:=ro) P ops Q c n l ((tt,.pointer (some ⟨b,o,none⟩)) :: m) O (j8 b o (enc x0) :: R)) (hw:j3 ops m ⟨some tt,.indexAddr s x ix,ty,ps,af,gd⟩=some true:=by exact rfl) (hd:yf (tt+1) n.sz=true:=by exact rfl):ve (ro:=ro) P ops Q c n (⟨some tt,.indexAddr s x ix,ty,ps,af,gd⟩ :: l) m O R:=QL i j hi hu ht hw hd h1 hk h2 hz hx kont
theorem qQ {s e T:TypeId} {x ix:Operand} {r:Rp α} {p:Option Addr} {k cap:Nat} {kk:IntKind} {z:Int} {xs:List α} (i j:Nat) (hi:O[i]? =some (rowA T r p cap xs)) (hu:P.underlying s=some (.slice e)) (ht:(P.info? e).map (·.size)=some r.sz)
    (h1:vz m x=some (.slice p k cap)) (hk:xs.length=k) (h2:vz m ix=some (.int kk z)) (hz:z=(j:Int)) (hj:j<k):
    Vl P n ⟨d,.indexAddr s x ix,ty,ps,af,gd⟩ m O R (Y:=Unit) (fun _=>True) (fun _=>ZZ p (j*r.sz)) (fun _=>[]):=fun a f hh g sp hr=>by
  obtain ⟨k1,k2,ap,e0,hA,_,_⟩:=vG.pick i hi sp
  refine ⟨(),trivial,trivial,fun w _ _=> ?_⟩
  have hA':Qv T r p cap xs g k1:=hA
  rcases hA' with ⟨_,_,rfl,_⟩|⟨b,off,cells,rfl,_⟩
  · simp at hk;omega
  · subst hz
    have hrun:=Z8 (P:=P) (a:=⟨b,off,none⟩) (cap:=cap) (kk:=kk) (w:=w) hu ht hj
    simp only [execOp,f.ev h1,f.ev h2,Sem.run_bind,hrun,Result.andThen_ok,Sem.run_pure,Addr.add_lit,ZZ,yT]
theorem VN {t T:TypeId} {x:Operand} {r:Rp α} {p:Option Addr} {cap o:Nat} {xs:List α} {x0:α} (i j:Nat) (hi:O[i]? =some (rowA T r p cap xs)) (ht:Ty P t r.sz true) (h:vz m x=some (ZZ p o)) (ho:o=j*r.sz) (hx:xs[j]? =some x0):
    ∀a,Fr n a m→∀h g,vG g O h→Holds g R→∃y:r.G,r.ok g x0 y∧∀w,Has w h→Has w g→(execOp a.eval ⟨d,.load t x,ty,ps,af,gd⟩).run P w= .ok (.value (.agg (r.enc x0 y).toArray)) w:=fun a f hh g sp hr=>by
  obtain ⟨k1,k2,ap,e0,hA,_,_⟩:=vG.pick i hi sp
  have hA':Qv T r p cap xs g k1:=hA
  rcases hA' with ⟨_,_,rfl,_⟩|⟨b,off,cells,rfl,_,_,_,rfl,e6⟩
  · simp at hx
  · obtain ⟨γ, a1, a2⟩ := e6 j x0 hx
    refine ⟨γ,a2,fun w hw _=> ?_⟩
    have hb:=hw _ _ (by rw [e0];exact Hp.le_joinL _ _ _ _ (Hp.single_self _ _))
    subst ho
    have hload:=QF (P:=P) (w:=w) (b:=b) (o:=off+j*r.sz) ht (r.len x0 γ) (fun q v e=>by have:=a1.2 q v e;simp [World.cell?,hb,this])
    simp [execOp,Instr.loadAt,Instr.sureAddr,f.ev h,ZZ,hload]
theorem zbH {t T:TypeId} {x:Operand} {r:Rp α} {p:Option Addr} {cap o:Nat} {xs:List α} {x0:α} (i j:Nat) (hi:O[i]? =some (rowA T r p cap xs)) (ht:Ty P t 1 false) (hsz:r.sz=1) (h:vz m x=some (ZZ p o)) (ho:o=j*r.sz) (hx:xs[j]? =some x0):
    ∀a,Fr n a m→∀h g,vG g O h→Holds g R→∃y:r.G,r.ok g x0 y∧∀v,r.enc x0 y=[v]→∀w,Has w h→Has w g→(execOp a.eval ⟨d,.load t x,ty,ps,af,gd⟩).run P w= .ok (.value v) w:=fun a f hh g sp hr=>by
  obtain ⟨k1,k2,ap,e0,hA,_,_⟩:=vG.pick i hi sp
  have hA':Qv T r p cap xs g k1:=hA
  rcases hA' with ⟨_,_,rfl,_⟩|⟨b,off,cells,rfl,_,_,_,rfl,e6⟩
  · simp at hx
  · obtain ⟨γ, a1, a2⟩ := e6 j x0 hx
    refine ⟨γ,a2,fun v hv w hw _=> ?_⟩
    have hb:=hw _ _ (by rw [e0];exact Hp.le_joinL _ _ _ _ (Hp.single_self _ _))
    subst ho
    have hload:=QG (P:=P) (w:=w) (b:=b) (o:=off+j*r.sz) ht (v:=v) (by have:=a1.2 0 v (by rw [hv];rfl);simp at this;simp [World.cell?,hb,this])
    simp [execOp,Instr.loadAt,Instr.sureAddr,f.ev h,ZZ,hload]
theorem qi {t T:TypeId} {x:Operand} {enc:α→List Value} {ok:α→Prop} {h1' h2'} {p:Option Addr} {cap o:Nat} {xs:List α} {x0:α} {v:Value} (i j:Nat) (hi:O[i]? =some (rowA T (fl 1 enc ok h1' h2') p cap xs)) (ht:Ty P t 1 false) (h:vz m x=some (ZZ p o)) (ho:o=j*1) (hx:xs[j]? =some x0) (hv:enc x0=[v]):
    Vl P n ⟨d,.load t x,ty,ps,af,gd⟩ m O R (Y:=Unit) (fun _=>ok x0) (fun _=>v) (fun _=>[]):=fun a f hh g sp hr=>by
  obtain ⟨y,hok,hrun⟩:=zbH (P:=P) (n:=n) (d:=d) (ty:=ty) (ps:=ps) (af:=af) (gd:=gd) (R:=R) (r:=fl 1 enc ok h1' h2') i j hi ht rfl h ho hx a f hh g sp hr
  exact ⟨(),hok,trivial,hrun v hv⟩
theorem zbI {t T:TypeId} {x:Operand} {sz:Nat} {enc:α→List Value} {ok:α→Prop} {h1' h2'} {p:Option Addr} {cap o:Nat} {xs:List α} {x0:α} (i j:Nat) (hi:O[i]? =some (rowA T (fl sz enc ok h1' h2') p cap xs)) (ht:Ty P t sz true) (h:vz m x=some (ZZ p o)) (ho:o=j*sz) (hx:xs[j]? =some x0):
    Vl P n ⟨d,.load t x,ty,ps,af,gd⟩ m O R (Y:=Unit) (fun _=>ok x0) (fun _=> .agg (enc x0).toArray) (fun _=>[]):=fun a f hh g sp hr=>by
  obtain ⟨y,hok,hrun⟩:=VN (P:=P) (n:=n) (d:=d) (ty:=ty) (ps:=ps) (af:=af) (gd:=gd) (R:=R) (r:=fl sz enc ok h1' h2') i j hi ht h ho hx a f hh g sp hr
  exact ⟨(),hok,trivial,hrun⟩
end
end Sp
namespace Sp
open Go
structure Inf (P:Program) (e:TypeId) (sz bytes:Nat) (z:Value):Prop where
  info:∃i,P.info? e=some i∧i.zero=some z∧i.size=sz∧i.bytes=bytes
theorem Inf.mk' {P:Program} {e:TypeId} {sz bytes:Nat} {z:Value} (h:(P.info? e).map (fun i=>(i.zero,i.size,i.bytes))=some (some z,sz,bytes)):Inf P e sz bytes z:=by
  cases hi:P.info? e with
  |none=>rw [hi] at h;cases h
  |some i=>rw [hi] at h;simp at h;exact ⟨i,hi,h.1,h.2.1,h.2.2⟩
theorem WG {i n k j:Nat} (hi:i<n) (hj:j<k):i*k+j<n*k:=by
  have:(i+1)*k≤n*k:=yu k hi
  rw [yt] at this
  omega
section
variable {P : Program} {Q : Exit → Act → World → Prop} {c : Cx} {n : Sz} {ro : Option Nat} {ops : Array Oper} {l : List Oper} {m : Fm} {O : List As} {R : List Fa}
variable {d : Option Tmp} {ty : TypeId} {ps : String} {af : Array Edge} {gd : Option (Nat × Bool)} {α : Type}
theorem vS {t T:TypeId} {bytes:Nat} {z:Value} {x y:Operand} {k1 k2:IntKind} {z1 z2:Int} {k:Nat} {r:Rp α} {x0:α} {γ0:r.G} (hu:P.underlying t=some (.slice T)) (hI:Inf P T r.sz bytes z) (h1:vz m x=some (.int k1 z1)) (h2:vz m y=some (.int k2 z2))
    (hz1:z1=(k:Int)) (hz2:z2=(k:Int)) (hb:bytes*k≤281474976710656) (hm:k≤9223372036854775807) (henc:z.cells=(r.enc x0 γ0).toArray) (hok:∀g,Holds g R→r.ok g x0 γ0) (hpos:0<r.sz):
    Ef P n ⟨d,.makeSlice t x y,ty,ps,af,gd⟩ m [] R (Y:=Nat) (fun _=>True) (fun b=> .slice (some ⟨b,0,none⟩) k k) (fun b=>[rowA T r (some ⟨b,0,none⟩) k (yC k x0)]) (fun _=>[]):=by
  intro a f w hh g s rr ap hw hg K Q hK
  have e:hh=Hp.emp:=s
  subst e;subst hz1;subst hz2
  obtain ⟨i,hi,hz,hsz,hby⟩:=hI.info
  have hrun:=run_make (P:=P) w t T i z hu hi hz k1 k2 (k:Int) (k:Int) Oo Oo (by rw [hby,←Int.natCast_mul];generalize bytes*k=q at hb;omega) Oo
  have hrun':(execOp a.eval ⟨d,.makeSlice t x y,ty,ps,af,gd⟩).run P w= .ok (.value (.slice (some ⟨w.heap.size,0,none⟩) k k)) (w.alloc (.cells (madeCells z.cells (k*r.sz)) T)):=by
    simp only [execOp,f.ev h1,f.ev h2,Sem.run_bind,hrun,Result.andThen_ok,Sem.run_pure,hsz,Int.toNat_natCast]
  refine Zh hrun' ?_
  refine hK w.heap.size _ trivial (Vz hw hg ?_)
  refine .inr ⟨w.heap.size,0,(madeCells z.cells (k*r.sz)).toList,rfl,by rw [List.length_replicate];exact yz _,by unfold maxLen;omega,by rw [yL,size_madeCells,yU];exact yz _,by rw [yK],fun j x hx=> ?_⟩
  have hj:j<k:=by
    have:=(yb.1 hx).1
    simpa using this
  have hx':x=x0:=by
    have:=(yb.1 hx).2
    simpa using this.symm
  subst hx'
  refine ⟨γ0,⟨r.len _ _,fun q v hv=> ?_⟩,hok g rr⟩
  have hq:q<r.sz:=by have:=(yb.1 hv).1;rwa [r.len] at this
  have hlt:0+j*r.sz+q<k*r.sz:=by have:=WG hj hq;omega
  have hmod:(0+j*r.sz+q)%r.sz=q:=by
    rw [yU,Nat.mul_comm,Nat.mul_add_mod];exact Nat.mod_eq_of_lt hq
  have hzs:z.cells.size=r.sz:=by rw [henc];simp [r.len]
  unfold madeCells
  rw [Array.getElem?_toList,Array.getElem?_map,Array.getElem?_range,if_pos hlt]
  simp only [yT,hzs,hmod]
  rw [henc]
  have hvq:=(yb.1 hv)
  obtain ⟨hq',hvq⟩:=hvq
  simp [hq',hvq]
theorem zbJ {t:TypeId} {T:TypeId} {i:TypeInfo} (ht:P.underlying t=some (.slice T)) (hi:P.info? T=some i) (ty:TypeId) (p q:Option Addr) (k cap cap2:Nat) (hk:k≤cap) (w:World):
    (Builtin.append_ #[t,t] ty #[.slice p k cap,.slice q 0 cap2]).run P w= .ok (.slice p k cap) w:=by
  have hf:(Builtin.firstCells i.size 0 (.slice q 0 cap2)).run P w= .ok #[] w:=by
    cases q with
    |none=>simp [Builtin.firstCells]
    |some a=>simp [Builtin.firstCells,loadCells,loadCellsFrom]
  cases p with
  |none=>simp [Builtin.append_,run_underlying ht,sizeOf,typeInfo,hi,Builtin.lenOf,hk,hf]
  |some a=>simp [Builtin.append_,run_underlying ht,sizeOf,typeInfo,hi,Builtin.lenOf,hk,hf,storeCells]
theorem zaW {t T:TypeId} {i:TypeInfo} (ht:P.underlying t=some (.slice T)) (hi:P.info? T=some i) (ty:TypeId) (w:World) (b off sLen sCap:Nat) (cur:Array Value) (hg:w.heap[b]? =some (.cells cur T (0,0)))
    (a:Addr) (k cap2:Nat) (news:List Value) (hl:news.length=k*i.size) (hnews:∀j u,news[j]? =some u→w.cell? (a.add j)=some u) (h1:∀u∈news,u.oneCell'=true)
    (hroom:sLen+k≤sCap) (hfit:off+sLen*i.size+news.length≤cur.size):
    (Builtin.append_ #[t,t] ty #[.slice (some ⟨b,off,none⟩) sLen sCap,.slice (some a) k cap2]).run P w=
      .ok (.slice (some ⟨b,off,none⟩) (sLen+k) sCap) (w.setRow b (cur.toList.take (off+sLen*i.size)++news++cur.toList.drop (off+sLen*i.size+news.length)).toArray):=by
  have hf:=run_firstCells_some (P:=P) w i.size k a k cap2 news hl hnews
  have hst:=run_storeCells_at P b (off+sLen*i.size) T news 0 cur w hg (by simpa using hfit) h1
  simp only [Nat.add_zero] at hst
  simp [Builtin.append_,run_underlying ht,sizeOf,typeInfo,hi,Builtin.lenOf,hroom,hf,Addr.add_lit,hst]
theorem Els.flat {r:Rp α} {g:Hp} {cells:List Value} {off:Nat} {xs:List α} (e:Els r g cells off xs) (hlen:off+xs.length*r.sz≤cells.length):
    ∀i x,xs[i]? =some x→∃γ,JL ((cells.drop off).take (xs.length*r.sz)) (i*r.sz) r.sz (r.enc x γ)∧r.ok g x γ:=by
  intro i x hx
  obtain ⟨γ,a1,a2⟩:=e i x hx
  refine ⟨γ,⟨a1.1,fun j v hv=> ?_⟩,a2⟩
  have hi:=(yb.1 hx).1
  have hj:j<r.sz:=by have:=(yb.1 hv).1;rwa [r.len] at this
  have:=WG hi hj
  rw [yq,if_pos this,yr]
  have:=a1.2 j v hv
  rw [← yQ];exact this
theorem zci {r:Rp α} {g:Hp} {A B rest:List Value} {off:Nat} {pre:List Value} {xs ys:List α} (hpre:pre.length=off) (hA:A.length=xs.length*r.sz) (h1:∀i x,xs[i]? =some x→∃γ,JL A (i*r.sz) r.sz (r.enc x γ)∧r.ok g x γ)
    (h2:∀i x,ys[i]? =some x→∃γ,JL B (i*r.sz) r.sz (r.enc x γ)∧r.ok g x γ):Els r g (pre++(A++(B++rest))) off (xs++ys):=by
  intro i x hx
  rw [ye] at hx
  split at hx
  · rename_i hi
    obtain ⟨γ,a1,a2⟩:=h1 i x hx
    refine ⟨γ,⟨a1.1,fun j v hv=> ?_⟩,a2⟩
    have:=a1.2 j v hv
    have hlt:=(yb.1 this).1
    rw [ye,if_neg Oo,hpre,ye,if_pos Oo]
    rw [show off+i*r.sz+j - off=i*r.sz+j by omega];exact this
  · rename_i hi
    obtain ⟨γ,a1,a2⟩:=h2 (i - xs.length) x hx
    refine ⟨γ,⟨a1.1,fun j v hv=> ?_⟩,a2⟩
    have:=a1.2 j v hv
    have hlt:=(yb.1 this).1
    have hmul:i*r.sz=xs.length*r.sz+(i - xs.length)*r.sz:=by rw [← yR];congr 1;omega
    rw [ye,if_neg Oo,hpre,ye,if_neg Oo,hA,ye,if_pos Oo]
    rw [show off+i*r.sz+j - off - xs.length*r.sz=(i - xs.length)*r.sz+j by omega];exact this
theorem qT {t T:TypeId} {bytes:Nat} {z:Value} {x y:Operand} {r:Rp α} {p q:Option Addr} {k cap k2 cap2:Nat} {xs ys:List α} (j:Nat) (hj:R[j]? =some (zI r q cap2 ys)) (hu:P.underlying t=some (.slice T)) (hI:Inf P T r.sz bytes z) (hpos:0<r.sz) (hzs:z.cells.size=r.sz)
    (h1:vz m x=some (.slice p k cap)) (hk:xs.length=k) (h2:vz m y=some (.slice q k2 cap2)) (hk2:ys.length=k2) (hm:k+k2≤9223372036854775807) (hby:(k+k2)*bytes≤140737488355328):
    Ef P n ⟨d,.call ⟨.builtin .append,#[x,y],#[t,t]⟩,ty,ps,af,gd⟩ m [rowA T r p cap xs] R (Y:=Option Addr×Nat) (fun _=>True) (fun v=> .slice v.1 (k+k2) v.2) (fun v=>[rowA T r v.1 v.2 (xs++ys)]) (fun _=>[]):=by
  intro a f w hh g s rr ap hw hg K Q hK
  obtain ⟨h1',h2',a1,e1,hA,e2⟩:=s
  have e2':h2'=Hp.emp:=e2
  subst e2'
  rw [Hp.join_emp] at e1
  subst e1
  have hs:Sl r g q cap2 ys:=Holds.get j hj rr
  obtain ⟨i,hi,hz,hsz,hbyt⟩:=hI.info
  subst hk;subst hk2
  have hexec:∀v w',(Builtin.append_ #[t,t] ty #[.slice p xs.length cap,.slice q ys.length cap2]).run P w= .ok v w'→(execOp a.eval ⟨d,.call ⟨.builtin .append,#[x,y],#[t,t]⟩,ty,ps,af,gd⟩).run P w= .ok (.value v) w':=fun v w' hr=>by
    simp only [execOp,resolve,invoke,builtin,Sem.run_bind,Sem.run_pure,Result.andThen_ok,yx,List.map_cons,List.map_nil,f.ev h1,f.ev h2,hr]
  by_cases hne:ys=[]
  · subst hne
    have hcap:xs.length≤cap:=by
      have hA':Qv T r p cap xs g hh:=hA
      rcases hA' with ⟨_,_,rfl,_⟩|⟨_,_,_,_,h,_⟩
      · simp
      · exact h
    refine Zh (hexec _ _ (zbJ hu hi ty p q xs.length cap cap2 hcap w)) ?_
    refine hK (p,cap) w trivial ⟨hh,g,vR.start ⟨hh,Hp.emp,fun _=> .inr rfl,(Hp.join_emp _).symm,by simpa using hA,rfl⟩ trivial ap hw hg⟩
  · obtain ⟨b2, off2, news, hq, hnl, hnc, hn1, hne'⟩ := hs.flat hne
    subst hq
    have hnews:∀j u,news[j]? =some u→w.cell? ((⟨b2,off2,none⟩:Addr).add j)=some u:=fun j u e=>by rw [Addr.add_lit];exact hnc w hg j u e
    have hys:0<ys.length:=by cases ys;exact absurd rfl hne;simp
    have hnl':news.length=ys.length*i.size:=by rw [hsz];exact hnl
    have hA':Qv T r p cap xs g hh:=hA
    rcases hA' with ⟨rfl,rfl,rfl,rfl⟩|⟨b,off,cells,rfl,hlc,hcm,hcl,rfl,hel⟩
    · have hr := run_append_nil (P := P) w t ty T i z hu hi hz ⟨b2, off2, none⟩ ys.length cap2 news hnl' hnews hys (by simp at hm; omega) (by rw [hbyt]; simp at hby; omega)
      simp only [List.length_nil] at hexec
      refine Zh (hexec _ _ hr) ?_
      have hge:=grownCap_ge w ys.length 0 T
      have hfin:=fun hM=>hK (some ⟨w.heap.size,0,none⟩,grownCap w ys.length 0 T) (w.drew.alloc (Obj.cells (news.toArray++Builtin.zeroCells z.cells (grownCap w ys.length 0 T - ys.length)) T)) trivial hM
      simp only [List.length_nil,yU] at hfin
      refine hfin (zch (Vz (w:=w.drew) hw hg ?_))
      refine .inr ⟨w.heap.size,0,news++(Builtin.zeroCells z.cells (grownCap w ys.length 0 T - ys.length)).toList,rfl,by simpa using hge,grownCap_le_maxLen w _ 0 T (by unfold maxLen;simp at hm;omega),?_,?_,?_⟩
      · simp only [yk, hnl, yL, size_zeroCells, hzs]
        have e:grownCap w ys.length 0 T=ys.length+(grownCap w ys.length 0 T - ys.length):=Oo
        have e':=congrArg (· *r.sz) e
        simp only [yR] at e'
        omega
      · congr 2;apply Array.ext';simp
      · have := zci (r := r) (g := g) (A := []) (B := news) (rest := (Builtin.zeroCells z.cells (grownCap w ys.length 0 T - ys.length)).toList) (off := 0) (pre := []) (xs := []) (ys := ys) rfl (by simp) (fun _ _ e => by simp at e) hne'
        simpa using this
    · have hb := hw _ _ (Hp.single_self _ _)
      have hxl:off+xs.length*r.sz≤cells.length:=by
        have:=yu r.sz hlc
        omega
      by_cases hroom:xs.length+ys.length≤cap
      · have hfit:off+xs.length*i.size+news.length≤cells.toArray.size:=by
          rw [hnl,hsz]
          have:=yu r.sz hroom
          rw [yR] at this
          simp only [yv];omega
        have hr:=zaW hu hi ty w b off xs.length cap cells.toArray hb ⟨b2,off2,none⟩ ys.length cap2 news hnl' hnews hn1 hroom hfit
        refine Zh (hexec _ _ hr) ?_
        refine hK (some ⟨b,off,none⟩,cap) _ trivial (Wc ap hw hg (A:=rowA T r (some ⟨b,off,none⟩) cap (xs++ys)) ?_ (setRow_heap w b _ _ T _ hb) (fun k hk=>setRow_other w b k _ hk) (by simp) rfl rfl rfl)
        refine .inr ⟨b,off,_,rfl,by simpa using hroom,hcm,?_,rfl,?_⟩
        · simp only [yk, ym, yI, yv] at hfit ⊢
          omega
        · have hsp:cells.take (off+xs.length*i.size)=cells.take off++(cells.drop off).take (xs.length*r.sz):=by
            rw [hsz,List.take_add]
          simp only [hsp,yw]
          exact zci (by simp;omega) (by simp;omega) (hel.flat hxl) hne'
      · have hold:∀j v,((cells.drop off).take (xs.length*r.sz))[j]? =some v→w.cell? ((⟨b,off,none⟩:Addr).add j)=some v:=fun j v e=>by
          rw [Addr.add_lit]
          rw [yq] at e
          split at e
          · rw [yr] at e
            simp [World.cell?,hb,e]
          · cases e
        have hr:=run_append_grow (P:=P) w t ty T i z hu hi hz ⟨b,off,none⟩ xs.length cap ((cells.drop off).take (xs.length*r.sz)) (by rw [hsz];simp;omega) hold ⟨b2,off2,none⟩ ys.length cap2 news hnl' hnews Oo Oo (growslice_fits Oo (by rw [hbyt];exact hby))
        refine Zh (hexec _ _ hr) ?_
        have hge:=grownCap_ge w (xs.length+ys.length) cap T
        -- the old row is let go
        have hMem:=Vz (w:=w.drew) (g:=g) (o:= .cells ((((cells.drop off).take (xs.length*r.sz)).toArray++news.toArray++Builtin.zeroCells z.cells (grownCap w (xs.length+ys.length) cap T - (xs.length+ys.length)))) T) (fun _ _ e=>by cases e) hg (A:=rowA T r (some ⟨w.heap.size,0,none⟩) (grownCap w (xs.length+ys.length) cap T) (xs++ys)) ?_
        · refine hK (some ⟨w.heap.size, 0, none⟩, grownCap w (xs.length + ys.length) cap T) _ trivial ?_
          obtain ⟨h',g',m'⟩:=zch hMem
          refine ⟨h',g',m'.sep,m'.holds,m'.apart,m'.hasH,m'.hasG,m'.le,fun k e nn=> .inl ?_,fun k e nn=> ?_,⟨m'.kept.os,m'.kept.tape,m'.kept.output,m'.kept.size,fun k hk e=>m'.kept.block k hk rfl⟩⟩
          · rcases m'.newG k e nn with x | x
            · exact x
            · exact absurd rfl x
          · exact m'.newH k rfl nn
        · refine .inr ⟨w.heap.size, 0, (cells.drop off).take (xs.length * r.sz) ++ (news ++ (Builtin.zeroCells z.cells (grownCap w (xs.length + ys.length) cap T - (xs.length + ys.length))).toList), rfl, by simpa using hge, grownCap_le_maxLen w _ cap T (by unfold maxLen; omega), ?_, ?_, ?_⟩
          · simp only [yk, hnl, yL, size_zeroCells, hzs, ym, yI]
            have e:grownCap w (xs.length+ys.length) cap T=xs.length+ys.length+(grownCap w (xs.length+ys.length) cap T - (xs.length+ys.length)):=Oo
            have e':=congrArg (· *r.sz) e
            simp only [yR] at e'
            omega
          · congr 2;apply Array.ext';simp
          · have := zci (r := r) (g := g) (A := (cells.drop off).take (xs.length * r.sz)) (B := news) (rest := (Builtin.zeroCells z.cells (grownCap w (xs.length + ys.length) cap T - (xs.length + ys.length))).toList) (off := 0) (pre := []) (xs := xs) (ys := ys) rfl (by simp; omega) (hel.flat hxl) hne'
            simpa using this
end
end Sp
namespace Sp
open Go
section
variable {P : Program} {Q : Exit → Act → World → Prop} {c : Cx} {n : Sz} {ro : Option Nat} {ops : Array Oper} {l : List Oper} {m : Fm} {O : List As} {R : List Fa}
variable {d : Option Tmp} {ty : TypeId} {ps : String} {af : Array Edge} {gd : Option (Nat × Bool)} {α : Type}
theorem WH {cells news:List Value} {o:Nat} (h:o+news.length≤cells.length) (k:Nat):
    (cells.take o++news++cells.drop (o+news.length))[k]? =if o≤k∧k<o+news.length then news[k - o]? else cells[k]? :=by
  simp only [yw,ye,ym,yq,yr]
  have e1:min o cells.length=o:=Oo
  rw [e1]
  by_cases h1:k<o
  · have h2 : ¬ (o ≤ k ∧ k < o + news.length) := by omega
    simp [h1,h2]
  · by_cases h2 : k < o + news.length
    · have h3 : o ≤ k ∧ k < o + news.length := by omega
      have h4:k - o<news.length:=Oo
      simp [h1,h3,h4]
    · have h3 : ¬ (o ≤ k ∧ k < o + news.length) := by omega
      have h4:¬(k - o<news.length):=Oo
      simp only [h1,h4,h3,if_false]
      congr 1;omega
theorem qh {t T:TypeId} {x y:Operand} {r:Rp α} {p:Option Addr} {cap o j:Nat} {xs:List α} {x0:α} {γ0:r.G} {v:Value} (hx:vz m x=some (ZZ p o)) (ho:o=j*r.sz) (hj:j<xs.length) (hy:vz m y=some v) (hv:v.cells=(r.enc x0 γ0).toArray)
    (ht:(P.info? t).map (·.size)=some r.sz) (hok:∀g,Holds g R→r.ok g x0 γ0):
    Ef P n ⟨none,.store t x y,ty,ps,af,gd⟩ m [rowA T r p cap xs] R (Y:=Unit) (fun _=>True) (fun _=>undef) (fun _=>[rowA T r p cap (xs.set j x0)]) (fun _=>[]):=by
  intro a f w hh g s rr ap hw hg K Q hK
  obtain ⟨k1,k2,a1,e1,hA,e2⟩:=s
  have hk2:k2=Hp.emp:=e2
  subst hk2
  rw [Hp.join_emp] at e1
  subst e1
  have hA':Qv T r p cap xs g hh:=hA
  rcases hA' with ⟨_,_,rfl,_⟩|⟨b,off,cells,rfl,hlc,hcm,hcl,rfl,hel⟩
  · simp at hj
  · have hblk := hw _ _ (Hp.single_self _ _)
    subst ho
    have hjc:(j+1)*r.sz≤cap*r.sz:=yu _ Oo
    rw [yt] at hjc
    have hfit:off+j*r.sz+(r.enc x0 γ0).length≤cells.length:=by rw [r.len];omega
    have hst:=run_storeCells_at P b (off+j*r.sz) T (r.enc x0 γ0) 0 cells.toArray w hblk (by simpa using hfit) (by have:=r.one x0 γ0;rwa [List.all_eq_true] at this)
    have hx':a.eval x= .pointer (some ⟨b,off+j*r.sz,none⟩):=f.ev hx
    have hrun:(execOp a.eval ⟨none,.store t x y,ty,ps,af,gd⟩).run P w= .ok .skip (w.setRow b (cells.take (off+j*r.sz)++r.enc x0 γ0++cells.drop (off+j*r.sz+(r.enc x0 γ0).length)).toArray):=by
      have hsz:(r.enc x0 γ0).length=r.sz:=r.len _ _
      simp only [Nat.add_zero] at hst
      simp [execOp,Instr.storeAt,Instr.sureAddr,storeVar,hx',f.ev hy,hv,v7 ht,hsz]
      rw [hsz] at hst
      simp at hst
      simp [hst]
    refine zbN (fun c e=>by cases e) hrun ?_
    refine hK () _ trivial (Wc ap hw hg (A:=rowA T r (some ⟨b,off,none⟩) cap (xs.set j x0)) ?_ (setRow_heap w b _ _ T _ hblk) (fun k hk=>setRow_other w b k _ hk) (by simp) rfl rfl rfl)
    refine .inr ⟨b,off,_,rfl,by simpa using hlc,hcm,?_,rfl,?_⟩
    · simp only [yk,ym,yI] at hfit ⊢;omega
    · intro i x1 hi
      by_cases hij:i=j
      · subst hij
        rw [List.getElem?_set_self hj] at hi
        cases hi
        refine ⟨γ0,⟨r.len _ _,fun q u hu=> ?_⟩,hok g rr⟩
        have hq:=(yb.1 hu).1
        rw [WH hfit,if_pos Oo]
        rw [show off+i*r.sz+q - (off+i*r.sz)=q by omega];exact hu
      · rw [List.getElem?_set_ne (Ne.symm hij)] at hi
        obtain ⟨γ,b1,b2⟩:=hel i x1 hi
        refine ⟨γ,⟨b1.1,fun q u hu=> ?_⟩,b2⟩
        have hq:q<r.sz:=by have:=(yb.1 hu).1;rwa [r.len] at this
        rw [WH hfit,if_neg]
        · exact b1.2 q u hu
        · rw [r.len]
          rcases Nat.lt_or_gt_of_ne hij with h|h
          · have := WG h hq
            omega
          · have h' : (j + 1) * r.sz ≤ i * r.sz := yu _ h
            rw [yt] at h'
            omega
theorem run_buildSlice {t e:TypeId} {sz bytes k:Nat} {z:Value} {vs:List (Nat×Value)} {out:List Value} {w:World} (hu:P.underlying t=some (.slice e)) (hI:Inf P e sz bytes z) (hzs:z.cells.size=sz) (hk:k*sz≤16777216) (hpos:0<k*sz)
    (hf:zaV (fun i=>some (i*sz,sz)) (madeCells z.cells (k*sz)).toList vs out):
    (Instr.buildSlice t k vs.toArray).run P w= .ok (.slice (some ⟨w.heap.size,0,none⟩) k k) (w.alloc (.cells out.toArray e)):=by
  obtain ⟨i,hi,hz,hsz,hby⟩:=hI.info
  have hfill:=zbO hf
  rw [yK] at hfill
  have h1:¬(16777216<k*sz):=Oo
  have h2:¬(k*sz=0):=Oo
  unfold madeCells at hfill
  simp [Instr.buildSlice,run_underlying hu,sizeOf,typeInfo,zeroValue,hi,hz,hsz,h1,h2,hfill,newRow]
theorem JE {t e:TypeId} {bytes k:Nat} {z:Value} {parts:List (Nat×Operand)} {vs:List (Nat×Value)} {out:List Value} {r:Rp α} {xs:List α} (hu:P.underlying t=some (.slice e)) (hI:Inf P e r.sz bytes z) (hzs:z.cells.size=r.sz) (hk:k*r.sz≤16777216) (hpos:0<k*r.sz) (hkm:k≤16777216)
    (hx:evp m parts vs) (hf:zaV (fun i=>some (i*r.sz,r.sz)) (madeCells z.cells (k*r.sz)).toList vs out) (hlen:xs.length=k) (hol:out.length=k*r.sz)
    (hel:∀g,Holds g R→Els r g out 0 xs):
    Ef P n ⟨d,.buildSlice t k parts.toArray,ty,ps,af,gd⟩ m [] R (Y:=Nat) (fun _=>True) (fun b=> .slice (some ⟨b,0,none⟩) k k) (fun b=>[rowA e r (some ⟨b,0,none⟩) k xs]) (fun _=>[]):=by
  intro a f w hh g s rr ap hw hg K Q hK
  have e0:hh=Hp.emp:=s
  subst e0
  have ev:=evp.map f hx
  have hparts:(Array.map (fun x:Nat×Operand=>match x with|(i,x)=>(i,a.eval x)) parts.toArray)=vs.toArray:=by rw [yx];congr 1
  have hrun:(execOp a.eval ⟨d,.buildSlice t k parts.toArray,ty,ps,af,gd⟩).run P w= .ok (.value (.slice (some ⟨w.heap.size,0,none⟩) k k)) (w.alloc (.cells out.toArray e)):=by
    simp only [execOp,hparts,Sem.run_bind,run_buildSlice hu hI hzs hk hpos hf,Result.andThen_ok,Sem.run_pure]
  refine Zh hrun ?_
  refine hK w.heap.size _ trivial (Vz hw hg ?_)
  exact .inr ⟨w.heap.size,0,out,rfl,Oo,by unfold maxLen;omega,Oo,rfl,hel g rr⟩
theorem vq {t e:TypeId} {sz bytes:Nat} {z:Value} (r:Rp α) (hu:P.underlying t=some (.slice e)) (hI:Inf P e sz bytes z):
    Ef P n ⟨d,.buildSlice t 0 #[],ty,ps,af,gd⟩ m [] R (Y:=Nat) (fun _=>True) (fun b=> .slice (some ⟨b,0,none⟩) 0 0) (fun b=>[rowA e r (some ⟨b,0,none⟩) 0 []]) (fun _=>[]):=by
  intro a f w hh g s rr ap hw hg K Q hK
  have e0:hh=Hp.emp:=s
  subst e0
  obtain ⟨i,hi,hz,hsz,hby⟩:=hI.info
  have hrun:(execOp a.eval ⟨d,.buildSlice t 0 #[],ty,ps,af,gd⟩).run P w= .ok (.value (.slice (some ⟨w.heap.size,0,none⟩) 0 0)) (w.alloc (.cells #[] e)):=by
    simp [execOp,Instr.buildSlice,run_underlying hu,sizeOf,typeInfo,hi,Instr.fill,newRow,Array.range_zero']
  refine Zh hrun ?_
  refine hK w.heap.size _ trivial (Vz hw hg ?_)
  exact .inr ⟨w.heap.size,0,[],rfl,by simp,by unfold maxLen;omega,by simp,rfl,fun i x e=>by simp at e⟩
theorem zej {t e:TypeId} {sz:Nat} {p:Option Addr} {len cap lo hi:Nat} {vlo vhi:Option Value} {w:World} (hu:P.underlying t=some (.slice e)) (ht:(P.info? e).map (·.size)=some sz)
    (h1:(vlo=none∧lo=0)∨∃k,vlo=some (.int k (lo:Int))) (h2:(vhi=none∧hi=len)∨∃k,vhi=some (.int k (hi:Int))) (hlh:lo≤hi) (hhc:hi≤cap):
    (Instr.sliceAt t (.slice p len cap) vlo vhi none).run P w= .ok (.slice (if cap=lo then p else p.map (·.add (lo*sz))) (hi - lo) (cap - lo)) w:=by
  have a1:(lo:Int)≤(hi:Int):=Oo
  have a2:(hi:Int)≤(cap:Int):=Oo
  rcases h1 with ⟨rfl,rfl⟩|⟨k1,rfl⟩ <;> rcases h2 with ⟨rfl,rfl⟩|⟨k2,rfl⟩ <;>
    simp [Instr.sliceAt,Instr.slice,Instr.sliceBounds,Instr.sliceBound,asIntOf,run_underlying hu,v7 ht,hlh,hhc]
def KD (m:Fm):Option Operand→Option Value→Prop
  |none,v=>v=none
  |some x,v=>∃u,v=some u∧vz m x=some u
theorem KD.map {a:Act} (f:Fr n a m) {x:Option Operand} {v:Option Value} (h:KD m x v):x.map a.eval=v:=by
  cases x with
  |none=>exact h.symm
  |some x=>obtain ⟨u,rfl,e⟩:=h;simp [f.ev e]
def Z9 (p:Option Addr) (cap lo sz:Nat):Option Addr:=if cap=lo then p else p.map (·.add (lo*sz))
theorem KE {t e:TypeId} {x:Operand} {xl xh:Option Operand} {vlo vhi:Option Value} {sz lo hi k cap:Nat} {p:Option Addr} (hu:P.underlying t=some (.slice e)) (ht:(P.info? e).map (·.size)=some sz) (h0:vz m x=some (.slice p k cap)) (hl:KD m xl vlo) (hh:KD m xh vhi)
    (h1:(vlo=none∧lo=0)∨∃k,vlo=some (.int k (lo:Int))) (h2:(vhi=none∧hi=k)∨∃k,vhi=some (.int k (hi:Int))) (hlh:lo≤hi) (hhc:hi≤cap):
    PV P n ⟨d,.slice t x xl xh none,ty,ps,af,gd⟩ m (.slice (Z9 p cap lo sz) (hi - lo) (cap - lo)):=fun a w f=>by
  have:=zej (P:=P) (p:=p) (len:=k) (w:=w) hu ht h1 h2 hlh hhc
  simp only [execOp,f.ev h0,KD.map f hl,KD.map f hh,Option.map_none,Sem.run_bind,this,Result.andThen_ok,Sem.run_pure,Z9]
theorem Sl.reslice {r:Rp α} {g:Hp} {p:Option Addr} {cap:Nat} {xs:List α} (s:Sl r g p cap xs) (lo hi:Nat) (hlh:lo≤hi) (hhi:hi≤xs.length):Sl r g (Z9 p cap lo r.sz) (cap - lo) ((xs.take hi).drop lo):=by
  obtain ⟨h1,h2,h3,h4⟩:=s
  refine ⟨by simp;omega,Oo,?_,fun i x e=> ?_⟩
  · intro e
    unfold Z9 at e
    split at e
    · omega
    · cases p with
      |none=>have:=h3 rfl;omega
      |some a=>simp at e
  · rw [yr, yq] at e
    split at e
    · rename_i hlt
      obtain ⟨b,off,γ,e1,e2,e3⟩:=h4 (lo+i) x e
      subst e1
      have hne:¬cap=lo:=Oo
      refine ⟨b,off+lo*r.sz,γ,by simp [Z9,hne,Addr.add_lit],?_,e3⟩
      rw [yR,←yQ] at e2;exact e2
    · cases e
theorem zcj {r:Rp α} {p:Option Addr} {cap:Nat} {xs:List α} (i:Nat) (hi:R[i]? =some (zI r p cap xs)) (lo hi':Nat) (hlh:lo≤hi') (hhi:hi'≤xs.length):∀g,Holds g R→∃x:Unit,True∧Holds g [zI r (Z9 p cap lo r.sz) (cap - lo) ((xs.take hi').drop lo)]:=fun g h=>
  ⟨(),trivial,(Sl.reslice (Holds.get i hi h:Sl r g p cap xs) lo hi' hlh hhi),trivial⟩
theorem zdB (p:Option Addr) (cap sz:Nat):Z9 p cap 0 sz=p:=by
  unfold Z9
  split
  · rfl
  · cases p <;> simp [Addr.add]
end
end Sp
namespace Sp
open Go
theorem Q9 {a z:Int} (h:a=z∧ -9223372036854775808≤z∧z≤9223372036854775807):IntKind.i64.wrap a=z:=by
  obtain ⟨rfl,h1,h2⟩:=h;rw [IntKind.wrap_i64];omega
theorem zlV {a z:Int} (h:a%18446744073709551616=z):IntKind.u64.wrap a=z:=by
  subst h;simp [IntKind.wrap,IntKind.bits,IntKind.signed]
theorem vu {a z:Int} (h:a=z∧0≤z∧z≤18446744073709551615):IntKind.u64.wrap a=z:=by
  obtain ⟨rfl,h1,h2⟩:=h;simp [IntKind.wrap,IntKind.bits,IntKind.signed];omega
theorem ZU {a z:Int} (h:a=z∧0≤z∧z≤4294967295):IntKind.u32.wrap a=z:=by
  obtain ⟨rfl,h1,h2⟩:=h;simp [IntKind.wrap,IntKind.bits,IntKind.signed];omega
theorem zu {z:Int}:Vb .i64 z↔ -9223372036854775808≤z∧z≤9223372036854775807:=by simp [Vb,IntKind.min,IntKind.max,IntKind.bits,IntKind.signed]
theorem zO {z:Int}:Vb .u32 z↔0≤z∧z≤4294967295:=by simp [Vb,IntKind.min,IntKind.max,IntKind.bits,IntKind.signed]
theorem KF {a b z:Int} (h:0≤a∧0<b) (hz:a / b=z):a.tdiv b=z:=by rw [← hz];exact Int.tdiv_eq_ediv_of_nonneg h.1
theorem KG {a b z:Int} (h:0≤a∧0<b) (hz:a%b=z):a.tmod b=z:=by rw [← hz];exact Int.tmod_eq_emod_of_nonneg h.1
theorem vQ.n {m:Fm}:vQ [] m:=trivial
theorem vQ.c {m l:Fm} {t:Nat} {v:Value} (h:Sp.lk m t=some v) (k:vQ l m):vQ ((t,v) :: l) m:=⟨h,k⟩
theorem vQ.e {m l:Fm} {t:Nat} {v v':Value} (h:Sp.lk m t=some v') (e:v'=v) (k:vQ l m):vQ ((t,v) :: l) m:=⟨by rw [h,e],k⟩
theorem q9.n {R:List Fa}:q9 [] R []:=trivial
theorem q9.c {R R':List Fa} {j:Nat} {js:List Nat} {r:Fa} (h:R[j]? =some r) (k:q9 js R R'):q9 (j :: js) R (r :: R'):=⟨h,k⟩
theorem q9.e {R R':List Fa} {j:Nat} {js:List Nat} {r r':Fa} (h:R[j]? =some r') (e:r'=r) (k:q9 js R R'):q9 (j :: js) R (r :: R'):=⟨by rw [h,e],k⟩
def zJ (is:List Nat) (O O':List As):Prop:=V2 is O=some O'
theorem zJ.n {O:List As}:zJ [] O []:=rfl
theorem zJ.c {O O':List As} {i:Nat} {is:List Nat} {A:As} (h:O[i]? =some A) (k:zJ is (O.eraseIdx i) O'):zJ (i :: is) O (A :: O'):=by
  unfold zJ at *;simp only [V2,h,k]
theorem zJ.e {O O':List As} {i:Nat} {is:List Nat} {A A':As} (h:O[i]? =some A') (e:A'=A) (k:zJ is (O.eraseIdx i) O'):zJ (i :: is) O (A :: O'):=zJ.c (h.trans (congrArg some e)) k
def zjg (m:Fm):List Nat→List (Option Value)
  |[]=>[]
  |t :: ts=>Sp.lk m t :: zjg m ts
theorem vQ.of {m:Fm}:∀{l:Fm},zjg m (l.map Prod.fst)=l.map (fun p=>some p.2)→vQ l m
  |[],_=>trivial
  |(t,v) :: l,h=>by
    simp only [List.map_cons,zjg,List.cons.injEq] at h
    exact ⟨h.1,vQ.of h.2⟩
def zfI (R:List Fa):List Nat→List (Option Fa)
  |[]=>[]
  |j :: js=>R[j]? :: zfI R js
theorem q9.of {R:List Fa}:∀(js:List Nat) {R':List Fa},zfI R js=R'.map some→q9 js R R'
  |[],[],_=>trivial
  |[],_ :: _,h=>by simp [zfI] at h
  |_ :: _,[],h=>by simp [zfI] at h
  |j :: js,r :: R',h=>by
    simp only [List.map_cons,zfI,List.cons.injEq] at h
    exact ⟨h.1,q9.of js h.2⟩
theorem zJ.of {O O':List As} (is:List Nat) (h:V2 is O=some O'):zJ is O O':=h
theorem evs.n {m:Fm}:evs m [] []:=trivial
theorem evs.c {m:Fm} {x:Operand} {v:Value} {xs:List Operand} {vs:List Value} (h:vz m x=some v) (k:evs m xs vs):evs m (x :: xs) (v :: vs):=⟨h,k⟩
theorem evp.n {m:Fm}:evp m [] []:=trivial
theorem evp.c {m:Fm} {i:Nat} {x:Operand} {v:Value} {xs:List (Nat×Operand)} {vs:List (Nat×Value)} (h:vz m x=some v) (k:evp m xs vs):evp m ((i,x) :: xs) ((i,v) :: vs):=⟨rfl,h,k⟩
theorem zaV.n {place:Nat→Option (Nat×Nat)} {cells:List Value}:zaV place cells [] cells:=rfl
theorem zaV.c {place:Nat→Option (Nat×Nat)} {cells cells1 news out:List Value} {i off size:Nat} {v:Value} {rest:List (Nat×Value)} (h1:place i=some (off,size)) (h2:v.cells=news.toArray) (h3:news.length=size) (h4:Wu cells off news cells1) (k:zaV place cells1 rest out):zaV place cells ((i,v) :: rest) out:=
  ⟨off,size,news,cells1,h1,h2,h3,h4,k⟩
theorem KC.n {P:Program}:KC P [] []:=trivial
theorem KC.c {P:Program} {f:Field} {fs:List Field} {s:Nat} {ps:List (Nat×Nat)} (h:(P.info? f.type).map (·.size)=some s) (k:KC P fs ps):KC P (f :: fs) ((f.offset,s) :: ps):=⟨rfl,h,k⟩
theorem KD.n {m:Fm}:KD m none none:=rfl
theorem KD.s {m:Fm} {x:Operand} {u:Value} (h:vz m x=some u):KD m (some x) (some u):=⟨u,rfl,h⟩
section
variable {P : Program} {Q : Exit → Act → World → Prop} {c : Cx} {n : Sz} {ro : Option Nat} {ops : Array Oper} {l : List Oper} {o : Oper} {m : Fm} {O : List As} {R : List Fa}
variable {d : Option Tmp} {ty : TypeId} {ps : String} {af : Array Edge} {gd : Option (Nat × Bool)} {α : Type}
theorem zaX {op:Op} {t0:Tmp} {p:Prop} [Decidable p] (hw:j3 ops m ⟨some t0,op,ty,ps,af,gd⟩=some true) (hd:yf (t0+1) n.sz=true) (h:PV P n ⟨some t0,op,ty,ps,af,gd⟩ m (.bool (decide p))) (t:p→ve (ro:=ro) P ops Q c n l ((t0,.bool true) :: m) O R) (f:¬p→ve (ro:=ro) P ops Q c n l ((t0,.bool false) :: m) O R):ve (ro:=ro) P ops Q c n (⟨some t0,op,ty,ps,af,gd⟩ :: l) m O R:=by
  by_cases hp:p
  · have : decide p = true := by simp [hp]
    rw [this] at h
    exact zho hw hd h (t hp)
  · have : decide p = false := by simp [hp]
    rw [this] at h
    exact zho hw hd h (f hp)
theorem q8 {op:Op} {t0:Tmp} {p:Prop} [Decidable p] (h:PV P n ⟨some t0,op,ty,ps,af,gd⟩ m (.bool (decide p))) (t:p→ve (ro:=ro) P ops Q c n l ((t0,.bool true) :: m) O R) (f:¬p→ve (ro:=ro) P ops Q c n l ((t0,.bool false) :: m) O R) (hw:j3 ops m ⟨some t0,op,ty,ps,af,gd⟩=some true:=by exact rfl) (hd:yf (t0+1) n.sz=true:=by exact rfl):ve (ro:=ro) P ops Q c n (⟨some t0,op,ty,ps,af,gd⟩ :: l) m O R:=zaX hw hd h t f
theorem zhu {op:Op} {t0:Tmp} {b:Bool} (hw:j3 ops m ⟨some t0,op,ty,ps,af,gd⟩=some true) (hd:yf (t0+1) n.sz=true) (h:PV P n ⟨some t0,op,ty,ps,af,gd⟩ m (.bool b)) (t:b=true→ve (ro:=ro) P ops Q c n l ((t0,.bool true) :: m) O R) (f:b=false→ve (ro:=ro) P ops Q c n l ((t0,.bool false) :: m) O R):ve (ro:=ro) P ops Q c n (⟨some t0,op,ty,ps,af,gd⟩ :: l) m O R:=by
  cases b
  · exact zho hw hd h (f rfl)
  · exact zho hw hd h (t rfl)
theorem jl {x:Operand} {b:Bool} {y z:Code} (e:vz m x=some (.bool b)) (k:vm (ro:=ro) P Q c n y m O R) (h:b=true:=by exact rfl):vm (ro:=ro) P Q c n (.cond x y z) m O R:=ZN e (fun _=>k) (fun h'=>by rw [h] at h';cases h')
theorem r_cond_f9 {x:Operand} {b:Bool} {y z:Code} (e:vz m x=some (.bool b)) (h:b=false) (k:vm (ro:=ro) P Q c n z m O R):vm (ro:=ro) P Q c n (.cond x y z) m O R:=ZN e (fun h'=>by rw [h] at h';cases h') (fun _=>k)
theorem qW {x:Operand} {b:Bool} {y z:Code} (e:vz m x=some (.bool b)) (k:vm (ro:=ro) P Q c n z m O R) (h:b=false:=by exact rfl):vm (ro:=ro) P Q c n (.cond x y z) m O R:=r_cond_f9 e h k
theorem Ef.weakR {R':List Fa} {O:List As} {Y:Type} {φ:Y→Prop} {val:Y→Value} {O':Y→List As} {R'':Y→List Fa} {js:List Nat} (hs:q9 js R R') (h:Ef P n o m O R' φ val O' R''):Ef P n o m O R φ val O' R'':=
  fun a f w hh g s r ap h1 h2 K Q hK=>h a f w hh g s (hs.holds r) ap h1 h2 K Q hK
theorem zjh {t0:Tmp} {fo:Operand} {xs:List Operand} {ats:Array TypeId} {f:Nat} {first cap vs:List Value} {R':List Fa} {js:List Nat} {Y:Type} {φ:Y→Prop} {val:Y→Value} {O':Y→List As} {R'':Y→List Fa}
    (hw:j3 ops m ⟨some t0,.call ⟨.value fo,xs.toArray,ats⟩,ty,ps,af,gd⟩=some true) (hd:yf (t0+1) n.sz=true) (hf:vz m fo=some (.func (.func f) first.toArray cap.toArray)) (hx:evs m xs vs) (hc:CanEnter P f)
    (h:jI P f (first++vs++cap) [] R' φ val O' R'') (hs:q9 js R R')
    (k:∀y,φ y→ve (ro:=ro) P ops Q c n l ((t0,val y) :: m) (O' y++O) (R'' y++R)):ve (ro:=ro) P ops Q c n (⟨some t0,.call ⟨.value fo,xs.toArray,ats⟩,ty,ps,af,gd⟩ :: l) m O R:=
  Zy hw hd (Ef.weakR hs (Wb hf hx hc h)) k
theorem ZP {t0:Tmp} {fo:Operand} {xs:List Operand} {ats:Array TypeId} {f:Nat} {first cap vs:List Value} {R':List Fa} {js:List Nat} {Y:Type} {φ:Y→Prop} {val:Y→Value} {O':Y→List As} {R'':Y→List Fa} (hf:vz m fo=some (.func (.func f) first.toArray cap.toArray)) (hx:evs m xs vs) (hc:CanEnter P f) (h:jI P f (first++vs++cap) [] R' φ val O' R'') (hs:q9 js R R') (k:∀y,φ y→ve (ro:=ro) P ops Q c n l ((t0,val y) :: m) (O' y++O) (R'' y++R)) (hw:j3 ops m ⟨some t0,.call ⟨.value fo,xs.toArray,ats⟩,ty,ps,af,gd⟩=some true:=by exact rfl) (hd:yf (t0+1) n.sz=true:=by exact rfl):ve (ro:=ro) P ops Q c n (⟨some t0,.call ⟨.value fo,xs.toArray,ats⟩,ty,ps,af,gd⟩ :: l) m O R:=zjh hw hd hf hx hc h hs k
theorem zfJ {t0:Tmp} {xs:List Operand} {ats:Array TypeId} {f:Nat} {vs:List Value} {R':List Fa} {js:List Nat} {Y:Type} {φ:Y→Prop} {val:Y→Value} {O':Y→List As} {R'':Y→List Fa}
    (hw:j3 ops m ⟨some t0,.call ⟨.value (.func f),xs.toArray,ats⟩,ty,ps,af,gd⟩=some true) (hd:yf (t0+1) n.sz=true) (hx:evs m xs vs) (hc:CanEnter P f)
    (h:jI P f vs [] R' φ val O' R'') (hs:q9 js R R')
    (k:∀y,φ y→ve (ro:=ro) P ops Q c n l ((t0,val y) :: m) (O' y++O) (R'' y++R)):ve (ro:=ro) P ops Q c n (⟨some t0,.call ⟨.value (.func f),xs.toArray,ats⟩,ty,ps,af,gd⟩ :: l) m O R:=
  zjh (first:=[]) (cap:=[]) hw hd rfl hx hc (by simpa using h) hs k
theorem zm {t0:Tmp} {xs:List Operand} {ats:Array TypeId} {f:Nat} {vs:List Value} {R':List Fa} {js:List Nat} {Y:Type} {φ:Y→Prop} {val:Y→Value} {O':Y→List As} {R'':Y→List Fa} (hx:evs m xs vs) (hc:CanEnter P f) (h:jI P f vs [] R' φ val O' R'') (hs:q9 js R R') (k:∀y,φ y→ve (ro:=ro) P ops Q c n l ((t0,val y) :: m) (O' y++O) (R'' y++R)) (hw:j3 ops m ⟨some t0,.call ⟨.value (.func f),xs.toArray,ats⟩,ty,ps,af,gd⟩=some true:=by exact rfl) (hd:yf (t0+1) n.sz=true:=by exact rfl):ve (ro:=ro) P ops Q c n (⟨some t0,.call ⟨.value (.func f),xs.toArray,ats⟩,ty,ps,af,gd⟩ :: l) m O R:=zfJ hw hd hx hc h hs k
theorem VG {t0:Tmp} {xs:List Operand} {ats:Array TypeId} {f:Nat} {vs:List Value} {R':List Fa} {js:List Nat} {v:Value}
    (hw:j3 ops m ⟨some t0,.call ⟨.value (.func f),xs.toArray,ats⟩,ty,ps,af,gd⟩=some true) (hd:yf (t0+1) n.sz=true) (hx:evs m xs vs) (hc:CanEnter P f)
    (h:jI P f vs [] R' (Y:=Unit) (fun _=>True) (fun _=>v) (fun _=>[]) (fun _=>[])) (hs:q9 js R R')
    (k:ve (ro:=ro) P ops Q c n l ((t0,v) :: m) O R):ve (ro:=ro) P ops Q c n (⟨some t0,.call ⟨.value (.func f),xs.toArray,ats⟩,ty,ps,af,gd⟩ :: l) m O R:=
  zfJ hw hd hx hc h hs (fun _ _=>k)
theorem qg {t0:Tmp} {xs:List Operand} {ats:Array TypeId} {f:Nat} {vs:List Value} {R':List Fa} {js:List Nat} {v:Value} (hx:evs m xs vs) (hc:CanEnter P f) (h:jI P f vs [] R' (Y:=Unit) (fun _=>True) (fun _=>v) (fun _=>[]) (fun _=>[])) (hs:q9 js R R') (k:ve (ro:=ro) P ops Q c n l ((t0,v) :: m) O R) (hw:j3 ops m ⟨some t0,.call ⟨.value (.func f),xs.toArray,ats⟩,ty,ps,af,gd⟩=some true:=by exact rfl) (hd:yf (t0+1) n.sz=true:=by exact rfl):ve (ro:=ro) P ops Q c n (⟨some t0,.call ⟨.value (.func f),xs.toArray,ats⟩,ty,ps,af,gd⟩ :: l) m O R:=VG hw hd hx hc h hs k
theorem Sl.cap_le {r:Rp α} {g:Hp} {p:Option Addr} {cap:Nat} {xs:List α} (s:Sl r g p cap xs):cap≤9223372036854775807:=by
  have:=s.2.1;unfold maxLen at this;omega
theorem zN {x:Code} {r:Rp α} {p:Option Addr} {cap:Nat} {xs:List α} (i:Nat) (hi:R[i]? =some (zI r p cap xs)) (k:xs.length≤cap∧cap≤9223372036854775807→vm (ro:=ro) P Q c n x m O R):vm (ro:=ro) P Q c n x m O R:=
  zhp (fun g h=>⟨(Holds.get i hi h:Sl r g p cap xs).1,(Holds.get i hi h:Sl r g p cap xs).cap_le⟩) k
theorem ZW {t e:TypeId} {x:Operand} {xh:Option Operand} {vhi:Option Value} {sz hi k cap:Nat} {p:Option Addr} (hu:P.underlying t=some (.slice e)) (ht:(P.info? e).map (·.size)=some sz) (h0:vz m x=some (.slice p k cap)) (hh:KD m xh vhi)
    (h2:(vhi=none∧hi=k)∨∃k,vhi=some (.int k (hi:Int))) (hhc:hi≤cap):
    PV P n ⟨d,.slice t x none xh none,ty,ps,af,gd⟩ m (.slice p hi cap):=by
  have:=KE (P:=P) (n:=n) (m:=m) (d:=d) (ty:=ty) (ps:=ps) (af:=af) (gd:=gd) (lo:=0) hu ht h0 .n hh (.inl ⟨rfl,rfl⟩) h2 (Nat.zero_le _) hhc
  rw [zdB] at this
  exact this
theorem V3 {r:Rp α} {p:Option Addr} {cap:Nat} {xs:List α} (i:Nat) (hi:R[i]? =some (zI r p cap xs)) (hi':Nat) (hhi:hi'≤xs.length):∀g,Holds g R→∃x:Unit,True∧Holds g [zI r p cap (xs.take hi')]:=fun g h=>
  ⟨(),trivial,by have:=Sl.reslice (Holds.get i hi h:Sl r g p cap xs) 0 hi' (Nat.zero_le _) hhi;rw [zdB] at this;exact this,trivial⟩
theorem gD {xs:List α} {j:Nat} {d:α} (h:j<xs.length):xs[j]? =some (xs.getD j d):=by simp [yB,yh h]
theorem jZ {x:Code} {sz:Nat} {enc:α→List Value} {ok:α→Prop} {h1 h2} {p:Option Addr} {cap:Nat} {xs:List α} (i:Nat) (hi:R[i]? =some (zI (fl sz enc ok h1 h2) p cap xs)) (k:(∀x∈xs,ok x)→vm (ro:=ro) P Q c n x m O R):vm (ro:=ro) P Q c n x m O R:=
  zhp (p:=∀x∈xs,ok x) (fun g h y hy=>by
    obtain ⟨j,hj⟩:=List.getElem?_of_mem hy
    obtain ⟨_,_,_,_,_,e⟩:=(Holds.get i hi h:Sl (fl sz enc ok h1 h2) g p cap xs).2.2.2 j y hj
    exact e) k
def Zb (m:Fm) (R:List Fa) (sz:Nat) (enc:α→List Value) (ok:α→Prop):Nat→List (Nat×Operand)→List (Nat×Value)→List α→Prop
  |_,[],[],[]=>True
  |i,(i1,x0) :: xs,(i2,v) :: vs,x :: es=>i1=i∧i2=i∧vz m x0=some v∧v.cells=(enc x).toArray∧(∀g,Holds g R→ok x)∧Zb m R sz enc ok (i+1) xs vs es
  |_,_,_,_=>False
theorem Zb.evp {sz:Nat} {enc:α→List Value} {ok:α→Prop}:∀{i:Nat} {xs:List (Nat×Operand)} {vs:List (Nat×Value)} {es:List α},Zb m R sz enc ok i xs vs es→evp m xs vs
  |_,[],[],[],_=>trivial
  |_,(_,_) :: _,(_,_) :: _,_ :: _,⟨h1,h2,h,_,_,k⟩=>⟨h1.trans h2.symm,h,Zb.evp k⟩
theorem Zb.fill {sz:Nat} {enc:α→List Value} {ok:α→Prop} (hl:∀x,(enc x).length=sz):∀{i:Nat} {xs:List (Nat×Operand)} {vs:List (Nat×Value)} {es:List α},Zb m R sz enc ok i xs vs es→∀(pre rest:List Value),pre.length=i*sz→rest.length=es.length*sz→
    zaV (fun i=>some (i*sz,sz)) (pre++rest) vs (pre++es.flatMap enc)
  |_,[],[],[],_,pre,rest,hp,hr=>by
    have:rest=[]:=yJ (by simpa using hr)
    subst this;rfl
  |i,(_,_) :: _,(_,_) :: _,x :: es,⟨h1,h2,h,hv,_,k⟩,pre,rest,hp,hr=>by
    subst h2
    refine ⟨_*sz,sz,enc x,pre++(enc x++rest.drop sz),rfl,hv,hl x,⟨?_,?_⟩,?_⟩
    · simp only [yk,hp,hl,hr,yn,yt];omega
    · rw [hl, ← hp, List.take_left, List.drop_append]
      have:pre.drop (pre.length+sz)=[]:=List.drop_eq_nil_of_le Oo
      rw [this,List.nil_append,show pre.length+sz - pre.length=sz by omega,yw]
    · have := Zb.fill hl k (pre ++ enc x) (rest.drop sz) (by rw [yk, hp, hl, yt]) (by rw [yI, hr, yn, yt]; omega)
      simpa [yw] using this
theorem Zb.els {sz:Nat} {enc:α→List Value} {ok:α→Prop} {h1 h2} {g:Hp} (hr:Holds g R) (hl:∀x,(enc x).length=sz):∀{i:Nat} {xs:List (Nat×Operand)} {vs:List (Nat×Value)} {es:List α},Zb m R sz enc ok i xs vs es→Els (fl sz enc ok h1 h2) g (es.flatMap enc) 0 es
  |_,[],[],[],_=>fun i x e=>by simp at e
  |_,(_,_) :: _,(_,_) :: _,x :: es,⟨_,_,h,hv,hok,k⟩=>fun i y e=>by
    cases i with
    |zero=>
      simp at e;subst e
      refine ⟨(),⟨hl x,fun j v ev=> ?_⟩,hok g hr⟩
      have ev':(enc x)[j]? =some v:=ev
      have hj:=(yb.1 ev').1
      simp only [yO,Nat.zero_mul,yU]
      rw [List.getElem?_append_left hj];exact ev'
    |succ i=>
      obtain ⟨γ,a1,a2⟩:=Zb.els (h1:=h1) (h2:=h2) hr hl k i y (by simpa using e)
      refine ⟨γ,⟨a1.1,fun j v ev=> ?_⟩,a2⟩
      have:=a1.2 j v ev
      simp only [yO]
      have hsz:(fl sz enc ok h1 h2).sz=sz:=rfl
      rw [hsz] at this ⊢
      rw [List.getElem?_append_right (by rw [hl,yt];omega),hl]
      rw [show 0+(i+1)*sz+j - sz=0+i*sz+j by rw [yt];omega];exact this
theorem Zb.len {sz:Nat} {enc:α→List Value} {ok:α→Prop} (hl:∀x,(enc x).length=sz):∀{i:Nat} {xs:List (Nat×Operand)} {vs:List (Nat×Value)} {es:List α},Zb m R sz enc ok i xs vs es→(es.flatMap enc).length=es.length*sz
  |_,[],[],[],_=>by simp
  |_,(_,_) :: _,(_,_) :: _,_ :: es,⟨_,_,h,hv,hok,k⟩=>by
    have:=Zb.len hl k
    simp only [yO,yk,hl,this,yn,yt];omega
theorem z6 {t e:TypeId} {bytes k sz:Nat} {enc:α→List Value} {ok:α→Prop} {h1 h2} {z:Value} {parts:List (Nat×Operand)} {vs:List (Nat×Value)} {xs:List α} (hu:P.underlying t=some (.slice e)) (hI:Inf P e sz bytes z) (hzs:z.cells.size=sz) (hk:k*sz≤16777216) (hpos:0<k*sz) (hkm:k≤16777216)
    (hp:Zb m R sz enc ok 0 parts vs xs) (hlen:xs.length=k:=by rfl):
    Ef P n ⟨d,.buildSlice t k parts.toArray,ty,ps,af,gd⟩ m [] R (Y:=Nat) (fun _=>True) (fun b=> .slice (some ⟨b,0,none⟩) k k) (fun b=>[rowA e (fl sz enc ok h1 h2) (some ⟨b,0,none⟩) k xs]) (fun _=>[]):=by
  subst hlen
  have hfill:=hp.fill h1 [] (madeCells z.cells (xs.length*sz)).toList (by simp) (by simp [size_madeCells])
  simp only [List.nil_append] at hfill
  exact JE (r:=fl sz enc ok h1 h2) hu hI hzs hk hpos hkm hp.evp hfill rfl (hp.len h1) (fun g hr=>hp.els hr h1)
end
theorem Zb.n {α:Type} {m:Fm} {R:List Fa} {sz:Nat} {enc:α→List Value} {ok:α→Prop} {i:Nat}:Zb m R sz enc ok i [] [] []:=trivial
theorem Zb.c {α:Type} {m:Fm} {R:List Fa} {sz:Nat} {enc:α→List Value} {ok:α→Prop} {i:Nat} {x0:Operand} {v:Value} {x:α} {xs:List (Nat×Operand)} {vs:List (Nat×Value)} {es:List α} (h:vz m x0=some v) (hv:v.cells=(enc x).toArray) (hok:∀g,Holds g R→ok x) (k:Zb m R sz enc ok (i+1) xs vs es):Zb m R sz enc ok i ((i,x0) :: xs) ((i,v) :: vs) (x :: es):=⟨rfl,rfl,h,hv,hok,k⟩
end Sp
namespace Sp
open Go
def v4 (Q:Exit→Act→World→Prop):Prop:=∀ch a d v w,Q (.panic ch) (Act.put a d v) w→Q (.panic ch) a w
theorem v4.then {K:Act→World→Prop} {Q:Exit→Act→World→Prop} (h:v4 Q):v4 (Exit.then K Q):=fun ch a d v w x=>h ch a d v w x
theorem v4.block {id:Nat} {Q:Exit→Act→World→Prop} (h:v4 Q):v4 (Exit.inBlock id Q):=fun ch a d v w x=>h ch a d v w x
theorem v4.ret {P:Program} {fn:Func} {c:Cx} {Y:Type} {φ:Y→Prop} {val:Y→Value} {O':Y→List As} {R':Y→List Fa}:v4 (Ret P fn c φ val O' R'):=fun ch a d v w x=>by
  obtain ⟨_,y,e,_⟩:=x
  cases e
theorem MemAt.framed {c:Cx} {w:World} {O F:List As} {R:List Fa} {ho hf g:Hp} (hs:vG g O ho) (hsf:vG g F hf) (ha:ho.apart hf) (m:MemAt c w (O++F) R (ho.join hf) g)
    {w':World} {O':List As} {R':List Fa} (h:vR ⟨w,ho,g⟩ w' O' R'):∃h' g',MemAt c w' (O'++F) (R'++R) (h'.join hf) g'∧vG g' O' h'∧vG g' F hf∧h'.apart hf∧g.le g':=by
  obtain ⟨h',g',m'⟩:=h
  have hfw:Has w' hf:=fun b o e=>by
    have hw:=m.hasH b o (Hp.le_joinR ha b o e)
    have hlt:=(yc.1 hw).1
    rw [m'.kept.block b hlt (by rcases ha b with x|x;exact x;rw [x] at e;cases e)]
    exact hw
  have hfg:hf.apart g':=fun b=>by
    cases e:hf b with
    |none=>exact .inl rfl
    |some o=>
      refine .inr ?_
      cases e':g' b with
      |none=>rfl
      |some o'=>
        have hw:=m.hasH b o (Hp.le_joinR ha b o e)
        have hlt:=(yc.1 hw).1
        have hgn:g b=none:=by
          rcases m.apart b with x|x
          · rw [Hp.le_joinR ha b o e] at x;cases x
          · exact x
        rcases m'.newG b hgn (by rw [e'];simp) with x|x
        · simp only at x;omega
        · rcases ha b with y | y
          · exact absurd y x
          · rw [y] at e;cases e
  have hfh:h'.apart hf:=fun b=>by
    cases e:hf b with
    |none=>exact .inr rfl
    |some o=>
      refine .inl ?_
      cases e':h' b with
      |none=>rfl
      |some o'=>
        have hw:=m.hasH b o (Hp.le_joinR ha b o e)
        have hlt:=(yc.1 hw).1
        have hdn:ho b=none:=by
          rcases ha b with x|x
          · exact x
          · rw [x] at e;cases e
        have:=m'.newH b hdn (by rw [e'];simp)
        simp only at this
        omega
  have hsf':vG g' F hf:=vG.mono m'.le hsf
  refine ⟨h',g',⟨vG.app m'.sep hsf' hfh,Holds.app m'.holds (Holds.mono m'.le m.holds),Hp.apart_join.2 ⟨m'.apart,hfg⟩,Has.join m'.hasH hfw,m'.hasG,Hp.le_trans m.le m'.le,?_,?_,?_⟩,m'.sep,hsf',hfh,m'.le⟩
  · intro b e n
    by_cases hg:g b=none
    · rcases m'.newG b hg n with x | x
      · exact .inl (yE m.kept.size x)
      · have hj : (ho.join hf) b ≠ none := fun y => x (Hp.join_none.1 y).1
        by_cases hd:c.D b=none
        · exact .inl (m.newH b hd hj)
        · exact .inr hd
    · exact m.newG b e hg
  · intro b e n
    by_cases hh:(ho.join hf) b=none
    · have hj := Hp.join_none.1 hh
      have:h' b≠none:=fun x=>n (Hp.join_none.2 ⟨x,hj.2⟩)
      exact yE m.kept.size (m'.newH b hj.1 this)
    · exact m.newH b e hh
  · refine ⟨m'.kept.os.trans m.kept.os, m'.kept.tape.trans m.kept.tape, m'.kept.output.trans m.kept.output, yE m.kept.size m'.kept.size, fun b hb e => ?_⟩
    have hno:ho b=none:=by
      cases x:ho b with
      |none=>rfl
      |some o=>
        have:=m.newH b e (by rw [Hp.le_joinL _ _ _ _ x];simp)
        omega
    rw [m'.kept.block b (Nat.lt_of_lt_of_le hb m.kept.size) hno]
    exact m.kept.block b hb e
def Zi (P:Program) (ops:Array Oper) (Q:Exit→Act→World→Prop) (S:Array Bool→World→Prop):Nat→Array Bool→Act→World→Prop
  |0,L,a,w=>Region.ready .any ops L=[]∧Q .normal a w
  |k+1,L,a,w=>(Region.ready .any ops L=[]→Q .normal a w)∧∀i∈Region.ready .any ops L,wpOp P ops Q i (fun a' w'=>S (L.setIfInBounds i true) w'∧Zi P ops Q S k (L.setIfInBounds i true) a' w') a w
section
variable {P : Program} {Q : Exit → Act → World → Prop} {ops : Array Oper}
theorem WI {S:Array Bool→World→Prop}:∀(k:Nat) (L:Array Bool) (a:Act) (w:World),Zi P ops Q S k L a w→wpAny P .any ops Q k L a w
  |0,_,_,_,h=>h
  |k+1,_,_,_,h=>⟨h.1,fun i hi=>wpOp_mono (fun a' w' h'=>WI k _ a' w' h'.2) (h.2 i hi)⟩
theorem ZA {S S':Array Bool→World→Prop} (hS:∀L w,S' L w→S L w):∀(k:Nat) (L:Array Bool) (a:Act) (w:World),Zi P ops Q S' k L a w→Zi P ops Q S k L a w
  |0,_,_,_,h=>h
  |k+1,_,_,_,h=>⟨h.1,fun i hi=>wpOp_mono (fun a' w' ⟨h1,h2⟩=>⟨hS _ _ h1,ZA hS k _ _ _ h2⟩) (h.2 i hi)⟩
def Closed (ops:Array Oper) (wi:Nat) (L:Array Bool):Prop:=∀(q:Nat) o,ops[q]? =some o→L.getD q true=true→∀e∈o.after,Region.binds .any e=true→L.getD e.on false=true
theorem JF {L:Array Bool} {j q:Nat} (h:L.getD q false=true):(L.setIfInBounds j true).getD q false=true:=by
  simp only [yd,yy] at*
  split
  · split <;> simp_all
  · exact h
theorem Closed.step {wi j:Nat} {L:Array Bool} (h:Closed ops wi L) (hj:j∈Region.ready .any ops L):Closed ops wi (L.setIfInBounds j true):=by
  intro q o ho hw e he hb
  by_cases hjw:j=q
  · subst hjw
    obtain ⟨_,oj,hoj,hall⟩:=mem_ready.1 hj
    rw [ho] at hoj;cases hoj
    exact JF (hall e he hb)
  · rw [getD_set_ne true hjw] at hw
    exact JF (h q o ho hw e he hb)
theorem zab {i wi:Nat} {oi:Oper} {v:Value} {S:Array Bool→World→Prop} {SI:World→Prop} (hi:ops[i]? =some oi) (hsel:∀(j:Nat) (o:Oper) cs b,ops[j]? =some o→o.op≠ .select cs b)
    (hQ:∀c a w,Q (.panic c) (a.put oi.dst v) w→Q (.panic c) a w) (hSi:∀L w,S (L.setIfInBounds i true) w↔S L w) (hSI:∀L w,Closed ops wi L→L.getD i true=false→S L w→SI w):
    ∀(k:Nat) (L:Array Bool) (a:Act) (w:World),Closed ops wi L→
      (∀j oj,ops[j]? =some oj→j≠i→L.getD j true=false→(∀e∈oj.after,Region.binds .any e=true→e.on≠i)→oi.apart ops oj=true)→
      i∈Region.ready .any ops L→YieldsIf P ops SI oi v a→S L w→
      Zi P ops Q S k (L.setIfInBounds i true) (a.put oi.dst v) w→Zi P ops Q S (k+1) L a w:=by
  intro k
  induction k with
  |zero=>
    intro L a w hcl hfree hr hy hS H
    have hun:L.getD i true=false:=(mem_ready.1 hr).1
    refine ⟨fun h=>(by rw [h] at hr;cases hr),fun j hj=> ?_⟩
    by_cases hji:j=i
    · subst hji;exact hy.wpOp hi (hSI L w hcl hun hS) ⟨(hSi L w).2 hS,H⟩
    · have := ready_mono hj hji
      rw [H.1] at this
      cases this
  |succ k ih=>
    intro L a w hcl hfree hr hy hS H
    have hun0:L.getD i true=false:=(mem_ready.1 hr).1
    refine ⟨fun h=>(by rw [h] at hr;cases hr),fun j hj=> ?_⟩
    by_cases hji:j=i
    · subst hji;exact hy.wpOp hi (hSI L w hcl hun0 hS) ⟨(hSi L w).2 hS,H⟩
    · have h1 := H.2 j (ready_mono hj hji)
      obtain ⟨hjun,oj,hoj,hall⟩:=mem_ready.1 hj
      have hnot:∀e∈oj.after,Region.binds .any e=true→e.on≠i:=fun e he hb heq=>by
        have h1:=hall e he hb
        have h0:=(mem_ready.1 hr).1
        rw [heq] at h1
        rcases yV i L.size with h'|h'
        · simp [h'] at h0 h1;rw [h0] at h1;cases h1
        · simp [Array.getElem?_eq_none h'] at h1
      have h2:=wpOp_putIf hoj (hfree j oj hoj hji hjun hnot) (fun cs b=>hsel i oi cs b hi) (fun cs b=>hsel j oj cs b hoj) hQ hy h1
      have hfree':∀q oq,ops[q]? =some oq→q≠i→(L.setIfInBounds j true).getD q true=false→
          (∀e∈oq.after,Region.binds .any e=true→e.on≠i)→oi.apart ops oq=true:=fun q oq hoq hqi hun hno=>by
        refine hfree q oq hoq hqi ?_ hno
        by_cases hjq:j=q
        · subst hjq;exact hjun
        · rw [getD_set_ne true hjq] at hun;exact hun
      refine wpOp_mono (fun a' w' h3=> ?_) h2
      have hSj:S (L.setIfInBounds j true) w':=(hSi _ _).1 (by rw [Array.setIfInBounds_comm _ _ hji];exact h3.2.1)
      refine ⟨hSj,ih (L.setIfInBounds j true) a' w' (hcl.step hj) hfree' (ready_mono hr (Ne.symm hji)) h3.1 hSj ?_⟩
      rw [Array.setIfInBounds_comm _ _ hji]
      exact h3.2.2
end
def zlW (ops:Array Oper):Nat→Nat→Nat→Bool
  |0,_,_=>false
  |f+1,w,i=>match ops[w]? with
    |some o=>o.after.any fun e=>Region.binds .any e&&(e.on == i||zlW ops f e.on i)
    |none=>false
def zkB (ops:Array Oper) (wi i:Nat):Bool:=zlW ops 6 wi i
theorem VO {L:Array Bool} {i:Nat} (h:L.getD i false=true):L.getD i true=true:=by
  rcases yV i L.size with h'|h' <;> simp_all [yd]
theorem zck {ops:Array Oper} {wi i:Nat} {L:Array Bool} (hc:Closed ops wi L):∀(f w:Nat),L.getD w true=true→zlW ops f w i=true→L.getD i false=true
  |0,_,_,h=>by simp [zlW] at h
  |f+1,w,hw,h=>by
    simp only [zlW] at h
    cases ho:ops[w]? with
    |none=>rw [ho] at h;cases h
    |some ow=>
      rw [ho] at h
      obtain ⟨e,he,hb⟩:=Array.any_eq_true'.1 h
      simp only [Bool.and_eq_true,Bool.or_eq_true,beq_iff_eq] at hb
      have h1:=hc w ow ho hw e he hb.1
      rcases hb.2 with h2|h2
      · rw [← h2];exact h1
      · exact zck hc f e.on (VO h1) h2
section
variable {P : Program} {Q : Exit → Act → World → Prop} {c : Cx} {n : Sz} {ro : Option Nat} {ops : Array Oper} {o : Oper} {m m' : Fm} {OW O O' OW' : List As} {R R' : List Fa} {k wi : Nat} {L : Array Bool}
def SL (wi:Nat) (hw hr g:Hp):Array Bool→World→Prop:=fun L w=>Has w hr∧Has w g∧(L.getD wi true=false→Has w hw)
def vn (P:Program) (ops:Array Oper) (Q:Exit→Act→World→Prop) (c:Cx) (n:Sz) (wi k:Nat) (L:Array Bool) (m:Fm) (OW O:List As) (R:List Fa):Prop:=
  v4 Q→Region.noSelect ops=true→Closed ops wi L→∀a w hw hr g,Fr n a m→vG g OW hw→vG g O hr→hw.apart hr→MemAt c w (OW++O) R (hw.join hr) g→Zi P ops Q (SL wi hw hr g) k L a w
def JN (P:Program) (ops:Array Oper) (Q:Exit→Act→World→Prop) (c:Cx) (n:Sz) (wi k:Nat) (L:Array Bool) (i:Nat) (m:Fm) (OW O:List As) (R:List Fa):Prop:=
  v4 Q→Region.noSelect ops=true→Closed ops wi L→i∈Region.ready .any ops L→∀a w hw hr g,Fr n a m→vG g OW hw→vG g O hr→hw.apart hr→MemAt c w (OW++O) R (hw.join hr) g→
    wpOp P ops Q i (fun a' w'=>SL wi hw hr g (L.setIfInBounds i true) w'∧Zi P ops Q (SL wi hw hr g) k (L.setIfInBounds i true) a' w') a w
theorem MemAt.drew {w:World} {O:List As} {h g:Hp} (m:MemAt c w O R h g):MemAt c w.drew O R h g:=
  ⟨m.sep,m.holds,m.apart,m.hasH,m.hasG,m.le,m.newG,m.newH,⟨m.kept.os,m.kept.tape,m.kept.output,m.kept.size,m.kept.block⟩⟩
theorem We (wi:Nat) {id:Nat} {l:List Oper} (hm:P.follows .mixedOrders=true) (hQ:v4 Q) (hs:Region.noSelect l.toArray=true) (h:vn P l.toArray Q c n wi l.length (yp l.length false) m OW O R):vm (ro:=none) P Q c n (.region id l.toArray true) m (OW++O) R:=by
  intro a w f mm
  obtain ⟨hh,g,mm⟩:=mm
  obtain ⟨hw,hr,ap,e,s1,s2⟩:=vG.split mm.sep
  subst e
  have hcl:Closed l.toArray wi (yp l.length false):=by
    intro q o ho ht
    have hsz:q<l.length:=by simpa using (yc.1 ho).1
    simp [yd,hsz] at ht
  have:=h hQ hs hcl a w.drew hw hr g f s1 s2 ap mm.drew
  have h2:=WI _ _ _ _ this
  refine wpIn_wide.2 (wp_region_any hm ?_)
  simpa using h2
theorem V4 (wi:Nat) {id:Nat} {l:List Oper} (hQ:v4 Q) (h:vn P l.toArray Q c n wi l.length (yp l.length false) m OW O R) (hm:P.follows .mixedOrders=true:=by exact mixed) (hs:Region.noSelect l.toArray=true:=by exact kr):vm (ro:=none) P Q c n (.region id l.toArray true) m (OW++O) R:=We wi hm hQ hs h
theorem SL.set {i wi:Nat} (hne:i≠wi) (hw hr g:Hp) (L:Array Bool) (w:World):SL wi hw hr g (L.setIfInBounds i true) w↔SL wi hw hr g L w:=by
  unfold SL;rw [getD_set_ne true hne]
theorem vn.take {i:Nat} {a:Act} {w:World} {hw hr g:Hp} {v:Value} (hs:Region.noSelect ops=true) (hcl:Closed ops wi L) (hQ:v4 Q) (hi:ops[i]? =some o) (hne:yj i wi=false) (hf:Region.free .any ops L i=true) (hr':(Region.ready .any ops L).contains i=true)
    (hy:YieldsIf P ops (fun w'=>Has w' hr∧Has w' g) o v a) (hS:SL wi hw hr g L w) (k':Zi P ops Q (SL wi hw hr g) k (L.setIfInBounds i true) (a.put o.dst v) w):
    Zi P ops Q (SL wi hw hr g) (k+1) L a w:=
  zab (SI:=fun w'=>Has w' hr∧Has w' g) (wi:=wi) hi (Region.noSelect_spec hs) (fun c a w=>hQ c a o.dst v w) (fun L w=>SL.set (fun e=>by subst e;simp [yM] at hne) hw hr g L w) (fun L w _ _ h=>⟨h.1,h.2.1⟩) k L a w hcl (Region.free_spec hi hf) (by simpa using hr') hy hS k'
theorem vn.takeW {i:Nat} {a:Act} {w:World} {hw hr g:Hp} {v:Value} (hs:Region.noSelect ops=true) (hcl:Closed ops wi L) (hQ:v4 Q) (hi:ops[i]? =some o) (hne:yj i wi=false) (hdep:zkB ops wi i=true) (hf:Region.free .any ops L i=true) (hr':(Region.ready .any ops L).contains i=true)
    (hy:YieldsIf P ops (fun w'=>Has w' hr∧Has w' g∧Has w' hw) o v a) (hS:SL wi hw hr g L w) (k':Zi P ops Q (SL wi hw hr g) k (L.setIfInBounds i true) (a.put o.dst v) w):
    Zi P ops Q (SL wi hw hr g) (k+1) L a w:=by
  refine zab (SI:=fun w'=>Has w' hr∧Has w' g∧Has w' hw) (wi:=wi) (S:=SL wi hw hr g) hi (Region.noSelect_spec hs) (fun c a w=>hQ c a o.dst v w) (fun L w=>SL.set (fun e=>by subst e;simp [yM] at hne) hw hr g L w) (fun L' w hc hu h=>⟨h.1,h.2.1,h.2.2 ?_⟩) k L a w hcl (Region.free_spec hi hf) (by simpa using hr') hy hS k'
  cases hwi:L'.getD wi true with
  |false=>rfl
  |true=>
    exfalso
    have this:=zck hc 6 wi hwi hdep
    rcases yV i L'.size with h'|h'
    · simp [h'] at this hu
      rw [this] at hu;cases hu
    · simp [Array.getElem?_eq_none h'] at hu
section
variable {op : Op} {t0 : Tmp} {ty : TypeId} {ps : String} {af : Array Edge} {gd : Option (Nat × Bool)}
theorem zkC (i:Nat) (hi:ops[i]? =some ⟨some t0,op,ty,ps,af,gd⟩) (hne:yj i wi=false) (hf:Region.free .any ops L i=true) (hr':(Region.ready .any ops L).contains i=true) (hw':j3 ops m ⟨some t0,op,ty,ps,af,gd⟩=some true) (hd:yf (t0+1) n.sz=true) {v:Value} (h:PV P n ⟨some t0,op,ty,ps,af,gd⟩ m v)
    (kont:vn P ops Q c n wi k (L.setIfInBounds i true) ((t0,v) :: m) OW O R):vn P ops Q c n wi (k+1) L m OW O R:=fun hQ hs hcl a w hw hr g f s1 s2 ap mm=>
  vn.take hs hcl hQ hi hne hf hr' (.inl ⟨f.wanted hw',fun w' _=>h a w' f⟩) ⟨Has.mono mm.hasH (Hp.le_joinR ap),mm.hasG,fun _=>Has.mono mm.hasH (Hp.le_joinL _ _)⟩ (kont hQ hs (hcl.step (by simpa using hr')) _ w hw hr g (f.put (d:=some t0) hd v) s1 s2 ap mm)
theorem zsa (i:Nat) (hi:ops[i]? =some ⟨some t0,op,ty,ps,af,gd⟩) (hne:yj i wi=false) (hf:Region.free .any ops L i=true) (hr':(Region.ready .any ops L).contains i=true) (hw':j3 ops m ⟨some t0,op,ty,ps,af,gd⟩=some false) (hd:yf (t0+1) n.sz=true)
    (kont:vn P ops Q c n wi k (L.setIfInBounds i true) ((t0,undef) :: m) OW O R):vn P ops Q c n wi (k+1) L m OW O R:=fun hQ hs hcl a w hw hr g f s1 s2 ap mm=>
  vn.take hs hcl hQ hi hne hf hr' (.inr ⟨f.wanted hw',rfl⟩) ⟨Has.mono mm.hasH (Hp.le_joinR ap),mm.hasG,fun _=>Has.mono mm.hasH (Hp.le_joinL _ _)⟩ (kont hQ hs (hcl.step (by simpa using hr')) _ w hw hr g (f.put (d:=some t0) hd _) s1 s2 ap mm)
theorem zcl (i:Nat) {p:Prop} [Decidable p] (hi:ops[i]? =some ⟨some t0,op,ty,ps,af,gd⟩) (hne:yj i wi=false) (hf:Region.free .any ops L i=true) (hr':(Region.ready .any ops L).contains i=true) (hw':j3 ops m ⟨some t0,op,ty,ps,af,gd⟩=some true) (hd:yf (t0+1) n.sz=true) (h:PV P n ⟨some t0,op,ty,ps,af,gd⟩ m (.bool (decide p)))
    (t:p→vn P ops Q c n wi k (L.setIfInBounds i true) ((t0,.bool true) :: m) OW O R) (e:¬p→vn P ops Q c n wi k (L.setIfInBounds i true) ((t0,.bool false) :: m) OW O R):vn P ops Q c n wi (k+1) L m OW O R:=by
  by_cases hp:p
  · have : decide p = true := by simp [hp]
    rw [this] at h
    exact zkC i hi hne hf hr' hw' hd h (t hp)
  · have : decide p = false := by simp [hp]
    rw [this] at h
    exact zkC i hi hne hf hr' hw' hd h (e hp)
theorem zlX (i:Nat) {b:Bool} (hi:ops[i]? =some ⟨some t0,op,ty,ps,af,gd⟩) (hne:yj i wi=false) (hf:Region.free .any ops L i=true) (hr':(Region.ready .any ops L).contains i=true) (hw':j3 ops m ⟨some t0,op,ty,ps,af,gd⟩=some true) (hd:yf (t0+1) n.sz=true) (h:PV P n ⟨some t0,op,ty,ps,af,gd⟩ m (.bool b))
    (t:b=true→vn P ops Q c n wi k (L.setIfInBounds i true) ((t0,.bool true) :: m) OW O R) (e:b=false→vn P ops Q c n wi k (L.setIfInBounds i true) ((t0,.bool false) :: m) OW O R):vn P ops Q c n wi (k+1) L m OW O R:=by
  cases b
  · exact zkC i hi hne hf hr' hw' hd h (e rfl)
  · exact zkC i hi hne hf hr' hw' hd h (t rfl)
theorem zlY (i:Nat) (hi:ops[i]? =some ⟨some t0,op,ty,ps,af,gd⟩) (hne:yj i wi=false) (hf:Region.free .any ops L i=true) (hr':(Region.ready .any ops L).contains i=true) (hw':j3 ops m ⟨some t0,op,ty,ps,af,gd⟩=some true) (hd:yf (t0+1) n.sz=true) {Y:Type} {φ:Y→Prop} {val:Y→Value} {R':Y→List Fa} (h:Vl P n ⟨some t0,op,ty,ps,af,gd⟩ m O R φ val R')
    (kont:∀y,φ y→vn P ops Q c n wi k (L.setIfInBounds i true) ((t0,val y) :: m) OW O (R' y++R)):vn P ops Q c n wi (k+1) L m OW O R:=fun hQ hs hcl a w hw hr g f s1 s2 ap mm=>by
  obtain ⟨y,hy,hR,hrun⟩:=h a f hr g s2 mm.holds
  exact vn.take hs hcl hQ hi hne hf hr' (.inl ⟨f.wanted hw',fun w' hS=>hrun w' hS.1 hS.2⟩) ⟨Has.mono mm.hasH (Hp.le_joinR ap),mm.hasG,fun _=>Has.mono mm.hasH (Hp.le_joinL _ _)⟩
    (kont y hy hQ hs (hcl.step (by simpa using hr')) _ w hw hr g (f.put (d:=some t0) hd _) s1 s2 ap ⟨mm.sep,Holds.app hR mm.holds,mm.apart,mm.hasH,mm.hasG,mm.le,mm.newG,mm.newH,mm.kept⟩)
theorem jc (i:Nat) (hi:ops[i]? =some ⟨some t0,op,ty,ps,af,gd⟩) {Y:Type} {φ:Y→Prop} {val:Y→Value} {R':Y→List Fa} (h:Vl P n ⟨some t0,op,ty,ps,af,gd⟩ m O R φ val R') (kont:∀y,φ y→vn P ops Q c n wi k (L.setIfInBounds i true) ((t0,val y) :: m) OW O (R' y++R)) (hne:yj i wi=false:=by exact rfl) (hf:Region.free .any ops L i=true:=by exact kr) (hr':(Region.ready .any ops L).contains i=true:=by exact kr) (hw':j3 ops m ⟨some t0,op,ty,ps,af,gd⟩=some true:=by exact rfl) (hd:yf (t0+1) n.sz=true:=by exact rfl):vn P ops Q c n wi (k+1) L m OW O R:=zlY i hi hne hf hr' hw' hd h kont
theorem zlZ (i:Nat) (hi:ops[i]? =some ⟨some t0,op,ty,ps,af,gd⟩) (hne:yj i wi=false) (hdep:zkB ops wi i=true) (hf:Region.free .any ops L i=true) (hr':(Region.ready .any ops L).contains i=true) (hw':j3 ops m ⟨some t0,op,ty,ps,af,gd⟩=some true) (hd:yf (t0+1) n.sz=true) {Y:Type} {φ:Y→Prop} {val:Y→Value} {R':Y→List Fa} (h:Vl P n ⟨some t0,op,ty,ps,af,gd⟩ m (OW++O) R φ val R')
    (kont:∀y,φ y→vn P ops Q c n wi k (L.setIfInBounds i true) ((t0,val y) :: m) OW O (R' y++R)):vn P ops Q c n wi (k+1) L m OW O R:=fun hQ hs hcl a w hw hr g f s1 s2 ap mm=>by
  obtain ⟨y,hy,hR,hrun⟩:=h a f (hw.join hr) g mm.sep mm.holds
  exact vn.takeW hs hcl hQ hi hne hdep hf hr' (.inl ⟨f.wanted hw',fun w' hS=>hrun w' (Has.join hS.2.2 hS.1) hS.2.1⟩) ⟨Has.mono mm.hasH (Hp.le_joinR ap),mm.hasG,fun _=>Has.mono mm.hasH (Hp.le_joinL _ _)⟩
    (kont y hy hQ hs (hcl.step (by simpa using hr')) _ w hw hr g (f.put (d:=some t0) hd _) s1 s2 ap ⟨mm.sep,Holds.app hR mm.holds,mm.apart,mm.hasH,mm.hasG,mm.le,mm.newG,mm.newH,mm.kept⟩)
theorem QM (i:Nat) (hi:ops[i]? =some ⟨some t0,op,ty,ps,af,gd⟩) {Y:Type} {φ:Y→Prop} {val:Y→Value} {R':Y→List Fa} (h:Vl P n ⟨some t0,op,ty,ps,af,gd⟩ m (OW++O) R φ val R') (kont:∀y,φ y→vn P ops Q c n wi k (L.setIfInBounds i true) ((t0,val y) :: m) OW O (R' y++R)) (hne:yj i wi=false:=by exact rfl) (hdep:zkB ops wi i=true:=by exact kr) (hf:Region.free .any ops L i=true:=by exact kr) (hr':(Region.ready .any ops L).contains i=true:=by exact kr) (hw':j3 ops m ⟨some t0,op,ty,ps,af,gd⟩=some true:=by exact rfl) (hd:yf (t0+1) n.sz=true:=by exact rfl):vn P ops Q c n wi (k+1) L m OW O R:=zlZ i hi hne hdep hf hr' hw' hd h kont
theorem d_u (i:Nat) (hi:ops[i]? =some ⟨some t0,op,ty,ps,af,gd⟩) (hne:yj i wi=false) (hf:Region.free .any ops L i=true) (hr':(Region.ready .any ops L).contains i=true) (hw':j3 ops m ⟨some t0,op,ty,ps,af,gd⟩=some true) (hd:yf (t0+1) n.sz=true) {v:Value} (h:Vl P n ⟨some t0,op,ty,ps,af,gd⟩ m O R (Y:=Unit) (fun _=>True) (fun _=>v) (fun _=>[]))
    (kont:vn P ops Q c n wi k (L.setIfInBounds i true) ((t0,v) :: m) OW O R):vn P ops Q c n wi (k+1) L m OW O R:=zlY i hi hne hf hr' hw' hd h (fun _ _=>kont)
theorem d_uw (i:Nat) (hi:ops[i]? =some ⟨some t0,op,ty,ps,af,gd⟩) (hne:yj i wi=false) (hdep:zkB ops wi i=true) (hf:Region.free .any ops L i=true) (hr':(Region.ready .any ops L).contains i=true) (hw':j3 ops m ⟨some t0,op,ty,ps,af,gd⟩=some true) (hd:yf (t0+1) n.sz=true) {v:Value} (h:Vl P n ⟨some t0,op,ty,ps,af,gd⟩ m (OW++O) R (Y:=Unit) (fun _=>True) (fun _=>v) (fun _=>[]))
    (kont:vn P ops Q c n wi k (L.setIfInBounds i true) ((t0,v) :: m) OW O R):vn P ops Q c n wi (k+1) L m OW O R:=zlZ i hi hne hdep hf hr' hw' hd h (fun _ _=>kont)
theorem zbq {α:Type} {s e:TypeId} {x ix:Operand} {sz:Nat} {enc:α→List Value} {ok:α→Prop} {h1' h2'} {p:Option Addr} {kk cap:Nat} {ki:IntKind} {z:Int} {xs:List α} {x0:α} (i0:Nat) (hi0:ops[i0]? =some ⟨some t0,.indexAddr s x ix,ty,ps,af,gd⟩) (hne:yj i0 wi=false) (hf:Region.free .any ops L i0=true) (hr':(Region.ready .any ops L).contains i0=true)
    (i j:Nat) (hi:R[i]? =some (zI (fl sz enc ok h1' h2') p cap xs)) (hu:P.underlying s=some (.slice e)) (ht:(P.info? e).map (·.size)=some sz)
    (hw:j3 ops m ⟨some t0,.indexAddr s x ix,ty,ps,af,gd⟩=some true) (hd:yf (t0+1) n.sz=true) (h1:vz m x=some (.slice p kk cap)) (hk:xs.length=kk) (h2:vz m ix=some (.int ki z)) (hz:z=(j:Int)) (hx:xs[j]? =some x0)
    (kont:∀b o,ok x0→vn P ops Q c n wi k (L.setIfInBounds i0 true) ((t0,.pointer (some ⟨b,o,none⟩)) :: m) OW O (j8 b o (enc x0) :: R)):vn P ops Q c n wi (k+1) L m OW O R:=by
  refine zlY i0 hi0 hne hf hr' hw hd (zM (P:=P) (r:=fl sz enc ok h1' h2') i j hi hu ht h1 hk h2 hz hx) (fun y _=> ?_)
  intro hQ hs hcl a w hw hr g f s1 s2 ap mm
  have hok:ok x0:=(Holds.get 1 rfl mm.holds:(okF (fl sz enc ok h1' h2') x0 y.2.2).on g)
  exact kont y.1 y.2.1 hok hQ hs hcl a w hw hr g f s1 s2 ap ⟨mm.sep,⟨mm.holds.1,mm.holds.2.2⟩,mm.apart,mm.hasH,mm.hasG,mm.le,mm.newG,mm.newH,mm.kept⟩
theorem jO {α:Type} {s e:TypeId} {x ix:Operand} {sz:Nat} {enc:α→List Value} {ok:α→Prop} {h1' h2'} {p:Option Addr} {kk cap:Nat} {ki:IntKind} {z:Int} {xs:List α} {x0:α} (i0:Nat) (hi0:ops[i0]? =some ⟨some t0,.indexAddr s x ix,ty,ps,af,gd⟩) (i j:Nat) (hi:R[i]? =some (zI (fl sz enc ok h1' h2') p cap xs)) (hu:P.underlying s=some (.slice e)) (ht:(P.info? e).map (·.size)=some sz) (h1:vz m x=some (.slice p kk cap)) (hk:xs.length=kk) (h2:vz m ix=some (.int ki z)) (hz:z=(j:Int)) (hx:xs[j]? =some x0) (kont:∀b o,ok x0→vn P ops Q c n wi k (L.setIfInBounds i0 true) ((t0,.pointer (some ⟨b,o,none⟩)) :: m) OW O (j8 b o (enc x0) :: R)) (hne:yj i0 wi=false:=by exact rfl) (hf:Region.free .any ops L i0=true:=by exact kr) (hr':(Region.ready .any ops L).contains i0=true:=by exact kr) (hw:j3 ops m ⟨some t0,.indexAddr s x ix,ty,ps,af,gd⟩=some true:=by exact rfl) (hd:yf (t0+1) n.sz=true:=by exact rfl):vn P ops Q c n wi (k+1) L m OW O R:=zbq i0 hi0 hne hf hr' i j hi hu ht hw hd h1 hk h2 hz hx kont
end
theorem jt (i:Nat) (hr:Region.ready .any ops L=[i]) (h:JN P ops Q c n wi k L i m OW O R):vn P ops Q c n wi (k+1) L m OW O R:=fun hQ hs hcl a w hw hr' g f s1 s2 ap mm=>
  ⟨(fun e=>by rw [hr] at e;cases e),fun j hj=>by
    have hj':=hj
    rw [hr] at hj
    have:j=i:=by simpa using hj
    subst this;exact h hQ hs hcl hj' a w hw hr' g f s1 s2 ap mm⟩
theorem Qq (i j:Nat) (hr:Region.ready .any ops L=[i,j]) (h1:JN P ops Q c n wi k L i m OW O R) (h2:JN P ops Q c n wi k L j m OW O R):vn P ops Q c n wi (k+1) L m OW O R:=fun hQ hs hcl a w hw hr' g f s1 s2 ap mm=>
  ⟨(fun e=>by rw [hr] at e;cases e),fun q hq=>by
    have hq':=hq
    rw [hr] at hq
    have:q=i∨q=j:=by simpa using hq
    rcases this with rfl|rfl
    · exact h1 hQ hs hcl hq' a w hw hr' g f s1 s2 ap mm
    · exact h2 hQ hs hcl hq' a w hw hr' g f s1 s2 ap mm⟩
theorem KH {hw hw' hr g:Hp}:∀(k:Nat) (L:Array Bool) (a:Act) (w:World),L.getD wi true=true→Zi P ops Q (SL wi hw hr g) k L a w→Zi P ops Q (SL wi hw' hr g) k L a w
  |0,_,_,_,_,h=>h
  |k+1,L,_,_,hl,h=>⟨h.1,fun i hi=>wpOp_mono (fun a' w' ⟨h1,h2⟩=>by
      have hl':(L.setIfInBounds i true).getD wi true=true:=by
        simp only [yd,yy] at*
        split
        · split <;> simp_all
        · exact hl
      exact ⟨⟨h1.1,h1.2.1,fun e=>by rw [hl'] at e;cases e⟩,KH k _ _ _ hl' h2⟩) (h.2 i hi)⟩
theorem zl0 {i:Nat} (hne:yj i wi=false) (hi:ops[i]? =some o) (hw':j3 ops m o=some true) (hd:okT n o.dst=true) {Y:Type} {φ:Y→Prop} {val:Y→Value} {O1:Y→List As} {R1:Y→List Fa} (h:Ef P n o m [] R φ val O1 R1)
    (kont:∀y,φ y→vn P ops Q c n wi k (L.setIfInBounds i true) (KB m o.dst (val y)) OW (O1 y++O) (R1 y++R)):JN P ops Q c n wi k L i m OW O R:=fun hQ hs hcl hrd a w hw hr g f s1 s2 ap mm=>by
  unfold wpOp
  simp only [hi]
  rw [if_pos (f.wanted hw')]
  refine .inl<|WpB.wp (h a f w Hp.emp g rfl mm.holds (Hp.emp_apart g) (fun _ _ e=>by cases e) mm.hasG _ _ fun y w' hy hM=> ?_)
  have mm0:MemAt c w ([]++(OW++O)) R (Hp.emp.join (hw.join hr)) g:=by simpa [Hp.emp_join] using mm
  obtain ⟨h',g',mm',sO',sF,ap',le'⟩:=MemAt.framed (O:=[]) (F:=OW++O) rfl mm.sep (Hp.emp_apart _) mm0 hM
  have ap2:=Hp.apart_joinR.1 ap'
  have hasj:Has w' (hw.join hr):=Has.mono mm'.hasH (Hp.le_joinR ap')
  have hasr:Has w' hr:=Has.mono hasj (Hp.le_joinR ap)
  have hnew:i≠wi:=fun e=>by subst e;simp [yM] at hne
  refine ⟨⟨hasr,Has.mono mm'.hasG le',fun _=>Has.mono hasj (Hp.le_joinL _ _)⟩,?_⟩
  have apn:hw.apart (h'.join hr):=Hp.apart_joinR.2 ⟨Hp.apart_symm ap2.1,ap⟩
  have hsep:vG g' (O1 y++O) (h'.join hr):=vG.app sO' (vG.mono le' s2) ap2.2
  have heq:h'.join (hw.join hr)=hw.join (h'.join hr):=by rw [← Hp.join_assoc,←Hp.join_assoc,Hp.join_comm ap2.1]
  have mm2:MemAt c w' (OW++(O1 y++O)) (R1 y++R) (hw.join (h'.join hr)) g':=by
    rw [heq] at mm'
    exact ⟨vG.app (vG.mono le' s1) hsep apn,mm'.holds,mm'.apart,mm'.hasH,mm'.hasG,mm'.le,mm'.newG,mm'.newH,mm'.kept⟩
  exact ZA (S':=SL wi hw (h'.join hr) g') (fun L w2 ⟨x1,x2,x3⟩=>⟨Has.mono x1 (Hp.le_joinR ap2.2),Has.mono x2 le',x3⟩) _ _ _ _ (kont y hy hQ hs (hcl.step hrd) _ w' hw (h'.join hr) g' (f.put hd _) (vG.mono le' s1) hsep apn mm2)
theorem V5 {i:Nat} (hi:ops[i]? =some o) {Y:Type} {φ:Y→Prop} {val:Y→Value} {O1:Y→List As} {R1:Y→List Fa} (h:Ef P n o m [] R φ val O1 R1) (kont:∀y,φ y→vn P ops Q c n wi k (L.setIfInBounds i true) (KB m o.dst (val y)) OW (O1 y++O) (R1 y++R)) (hne:yj i wi=false:=by exact rfl) (hw':j3 ops m o=some true:=by exact rfl) (hd:okT n o.dst=true:=by exact rfl):JN P ops Q c n wi k L i m OW O R:=zl0 hne hi hw' hd h kont
theorem zcm {i:Nat} {A:As} (hlw:(L.setIfInBounds i true).getD wi true=true) (hi:ops[i]? =some o) (hw':j3 ops m o=some true) (hd:okT n o.dst=true) {Y:Type} {φ:Y→Prop} {val:Y→Value} {A':Y→As} {R1:Y→List Fa} (h:Ef P n o m [A] R φ val (fun y=>[A' y]) R1)
    (kont:∀y,φ y→vn P ops Q c n wi k (L.setIfInBounds i true) (KB m o.dst (val y)) (A' y :: OW) O (R1 y++R)):JN P ops Q c n wi k L i m (A :: OW) O R:=fun hQ hs hcl hrd a w hw hr g f s1 s2 ap mm=>by
  unfold wpOp
  simp only [hi]
  rw [if_pos (f.wanted hw')]
  obtain ⟨k1,k2,a12,e,hA,sW⟩:=s1
  subst e
  have hapA:=Hp.apart_join.1 ap
  have hk1:k1.apart g:=(Hp.apart_join.1 (Hp.apart_join.1 mm.apart).1).1
  have hkw:Has w k1:=Has.mono mm.hasH (Hp.le_trans (Hp.le_joinL k1 k2) (Hp.le_joinL _ _))
  have sA:vG g [A] k1:=⟨k1,Hp.emp,fun _=> .inr rfl,(Hp.join_emp _).symm,hA,rfl⟩
  refine .inl<|WpB.wp (h a f w k1 g sA mm.holds hk1 hkw mm.hasG _ _ fun y w' hy hM=> ?_)
  have apF:k1.apart (k2.join hr):=Hp.apart_joinR.2 ⟨a12,hapA.1⟩
  have hsF:vG g (OW++O) (k2.join hr):=vG.app sW s2 hapA.2
  have mm0:MemAt c w ([A]++(OW++O)) R (k1.join (k2.join hr)) g:=by rw [← Hp.join_assoc];exact mm
  obtain ⟨h',g',mm',sO',sF,ap',le'⟩:=MemAt.framed (O:=[A]) (F:=OW++O) sA hsF apF mm0 hM
  have ap2:=Hp.apart_joinR.1 ap'
  have hasj:Has w' (k2.join hr):=Has.mono mm'.hasH (Hp.le_joinR ap')
  have hasr:Has w' hr:=Has.mono hasj (Hp.le_joinR hapA.2)
  refine ⟨⟨hasr,Has.mono mm'.hasG le',fun e=>by rw [hlw] at e;cases e⟩,?_⟩
  obtain ⟨q1,q2,b12,eq,hA',q0⟩:=sO'
  have hq2:q2=Hp.emp:=q0
  subst hq2
  rw [Hp.join_emp] at eq
  subst eq
  have sW':vG g' (A' y :: OW) (h'.join k2):=⟨h',k2,ap2.1,rfl,hA',vG.mono le' sW⟩
  have apn:(h'.join k2).apart hr:=Hp.apart_join.2 ⟨ap2.2,hapA.2⟩
  have mm2:MemAt c w' ((A' y :: OW)++O) (R1 y++R) ((h'.join k2).join hr) g':=by
    rw [Hp.join_assoc]
    exact mm'
  refine KH (hw:=h'.join k2) _ _ _ _ hlw ?_
  exact ZA (S':=SL wi (h'.join k2) hr g') (fun L w2 ⟨x1,x2,x3⟩=>⟨x1,Has.mono x2 le',x3⟩) _ _ _ _ (kont y hy hQ hs (hcl.step hrd) _ w' (h'.join k2) hr g' (f.put hd _) sW' (vG.mono le' s2) apn mm2)
theorem VH {i:Nat} {A:As} (hlw:(L.setIfInBounds i true).getD wi true=true) (hi:ops[i]? =some o) {Y:Type} {φ:Y→Prop} {val:Y→Value} {A':Y→As} {R1:Y→List Fa} (h:Ef P n o m [A] R φ val (fun y=>[A' y]) R1) (kont:∀y,φ y→vn P ops Q c n wi k (L.setIfInBounds i true) (KB m o.dst (val y)) (A' y :: OW) O (R1 y++R)) (hw':j3 ops m o=some true:=by exact rfl) (hd:okT n o.dst=true:=by exact rfl):JN P ops Q c n wi k L i m (A :: OW) O R:=zcm hlw hi hw' hd h kont
theorem zji {i:Nat} {t0:Tmp} {ty:TypeId} {ps:String} {af:Array Edge} {gd:Option (Nat×Bool)} {fo:Operand} {xs:List Operand} {ats:Array TypeId} {f:Nat} {first cap vs:List Value} {R':List Fa} {js:List Nat} {Y:Type} {φ:Y→Prop} {val:Y→Value} {O1:Y→List As} {R1:Y→List Fa}
    (hne:yj i wi=false) (hi:ops[i]? =some ⟨some t0,.call ⟨.value fo,xs.toArray,ats⟩,ty,ps,af,gd⟩) (hw:j3 ops m ⟨some t0,.call ⟨.value fo,xs.toArray,ats⟩,ty,ps,af,gd⟩=some true) (hd:yf (t0+1) n.sz=true) (hf:vz m fo=some (.func (.func f) first.toArray cap.toArray)) (hx:evs m xs vs) (hc:CanEnter P f)
    (h:jI P f (first++vs++cap) [] R' φ val O1 R1) (hs:q9 js R R')
    (kont:∀y,φ y→vn P ops Q c n wi k (L.setIfInBounds i true) ((t0,val y) :: m) OW (O1 y++O) (R1 y++R)):JN P ops Q c n wi k L i m OW O R:=
  zl0 hne hi hw hd (Ef.weakR hs (Wb hf hx hc h)) kont
theorem V6 {i:Nat} {t0:Tmp} {ty:TypeId} {ps:String} {af:Array Edge} {gd:Option (Nat×Bool)} {fo:Operand} {xs:List Operand} {ats:Array TypeId} {f:Nat} {first cap vs:List Value} {R':List Fa} {js:List Nat} {Y:Type} {φ:Y→Prop} {val:Y→Value} {O1:Y→List As} {R1:Y→List Fa} (hi:ops[i]? =some ⟨some t0,.call ⟨.value fo,xs.toArray,ats⟩,ty,ps,af,gd⟩) (hf:vz m fo=some (.func (.func f) first.toArray cap.toArray)) (hx:evs m xs vs) (hc:CanEnter P f) (h:jI P f (first++vs++cap) [] R' φ val O1 R1) (hs:q9 js R R') (kont:∀y,φ y→vn P ops Q c n wi k (L.setIfInBounds i true) ((t0,val y) :: m) OW (O1 y++O) (R1 y++R)) (hne:yj i wi=false:=by exact rfl) (hw:j3 ops m ⟨some t0,.call ⟨.value fo,xs.toArray,ats⟩,ty,ps,af,gd⟩=some true:=by exact rfl) (hd:yf (t0+1) n.sz=true:=by exact rfl):JN P ops Q c n wi k L i m OW O R:=zji hne hi hw hd hf hx hc h hs kont
theorem zfK {i:Nat} {t0:Tmp} {ty:TypeId} {ps:String} {af:Array Edge} {gd:Option (Nat×Bool)} {xs:List Operand} {ats:Array TypeId} {f:Nat} {vs:List Value} {R':List Fa} {js:List Nat} {Y:Type} {φ:Y→Prop} {val:Y→Value} {O1:Y→List As} {R1:Y→List Fa}
    (hne:yj i wi=false) (hi:ops[i]? =some ⟨some t0,.call ⟨.value (.func f),xs.toArray,ats⟩,ty,ps,af,gd⟩) (hw:j3 ops m ⟨some t0,.call ⟨.value (.func f),xs.toArray,ats⟩,ty,ps,af,gd⟩=some true) (hd:yf (t0+1) n.sz=true) (hx:evs m xs vs) (hc:CanEnter P f)
    (h:jI P f vs [] R' φ val O1 R1) (hs:q9 js R R')
    (kont:∀y,φ y→vn P ops Q c n wi k (L.setIfInBounds i true) ((t0,val y) :: m) OW (O1 y++O) (R1 y++R)):JN P ops Q c n wi k L i m OW O R:=
  zji (first:=[]) (cap:=[]) hne hi hw hd rfl hx hc (by simpa using h) hs kont
theorem zp {i:Nat} {t0:Tmp} {ty:TypeId} {ps:String} {af:Array Edge} {gd:Option (Nat×Bool)} {xs:List Operand} {ats:Array TypeId} {f:Nat} {vs:List Value} {R':List Fa} {js:List Nat} {Y:Type} {φ:Y→Prop} {val:Y→Value} {O1:Y→List As} {R1:Y→List Fa} (hi:ops[i]? =some ⟨some t0,.call ⟨.value (.func f),xs.toArray,ats⟩,ty,ps,af,gd⟩) (hx:evs m xs vs) (hc:CanEnter P f) (h:jI P f vs [] R' φ val O1 R1) (hs:q9 js R R') (kont:∀y,φ y→vn P ops Q c n wi k (L.setIfInBounds i true) ((t0,val y) :: m) OW (O1 y++O) (R1 y++R)) (hne:yj i wi=false:=by exact rfl) (hw:j3 ops m ⟨some t0,.call ⟨.value (.func f),xs.toArray,ats⟩,ty,ps,af,gd⟩=some true:=by exact rfl) (hd:yf (t0+1) n.sz=true:=by exact rfl):JN P ops Q c n wi k L i m OW O R:=zfK hne hi hw hd hx hc h hs kont
theorem jU {i:Nat} {t0:Tmp} {ty:TypeId} {ps:String} {af:Array Edge} {gd:Option (Nat×Bool)} {xs:List Operand} {ats:Array TypeId} {f:Nat} {vs:List Value} {R':List Fa} {js:List Nat} {v:Value} (hi:ops[i]? =some ⟨some t0,.call ⟨.value (.func f),xs.toArray,ats⟩,ty,ps,af,gd⟩) (hx:evs m xs vs) (hc:CanEnter P f) (h:jI P f vs [] R' (Y:=Unit) (fun _=>True) (fun _=>v) (fun _=>[]) (fun _=>[])) (hs:q9 js R R') (kont:vn P ops Q c n wi k (L.setIfInBounds i true) ((t0,v) :: m) OW O R) (hne:yj i wi=false:=by exact rfl) (hw:j3 ops m ⟨some t0,.call ⟨.value (.func f),xs.toArray,ats⟩,ty,ps,af,gd⟩=some true:=by exact rfl) (hd:yf (t0+1) n.sz=true:=by exact rfl):JN P ops Q c n wi k L i m OW O R:=zfK hne hi hw hd hx hc h hs (fun _ _=>kont)
theorem zH {i:Nat} {T t:TypeId} {x y:Operand} {b off:Nat} {v:Value} {cells news cells':List Value} {ty:TypeId} {ps:String} {af:Array Edge} {gd:Option (Nat×Bool)} (hi:ops[i]? =some ⟨none,.store t x y,ty,ps,af,gd⟩) (hx:vz m x=some (.pointer (some ⟨b,off,none⟩))) (hy:vz m y=some v) (hv:v.cells=news.toArray) (ht:(P.info? t).map (·.size)=some news.length) (hu:Wu cells off news cells') (kont:vn P ops Q c n wi k (L.setIfInBounds i true) m (zK b T cells' :: OW) O R) (hlw:(L.setIfInBounds i true).getD wi true=true:=by exact kr) (hw:j3 ops m ⟨none,.store t x y,ty,ps,af,gd⟩=some true:=by exact rfl) (h1:news.all (·.oneCell')=true:=by exact rfl):JN P ops Q c n wi k L i m (zK b T cells :: OW) O R:=
  zcm (A':=fun _=>zK b T cells') hlw hi hw rfl (zaa hx hy hv ht h1 hu) (fun _ _=>kont)
theorem Zc {OW2:List As} (p:OW.Perm OW2) (kont:vn P ops Q c n wi k L m OW2 O R):vn P ops Q c n wi k L m OW O R:=fun hQ hs hcl a w hw hr g f s1 s2 ap mm=>
  kont hQ hs hcl a w hw hr g f (vG.perm p s1) s2 ap ⟨vG.perm (List.Perm.append_right _ p) mm.sep,mm.holds,mm.apart,mm.hasH,mm.hasG,mm.le,mm.newG,mm.newH,mm.kept⟩
theorem vk {x:Code} {is:List Nat} (ho:zJ is O O') (h:vm (ro:=ro) P Q c n x m O' R):vm (ro:=ro) P Q c n x m O R:=fun a w f mm=>h a w f (by
  have:=mm.weaken (O':=O') (R':=R) (fun h g s r a=>by
    obtain ⟨h',l,s'⟩:=vG.picks ho s
    exact ⟨h',g,s',r,l,Hp.le_refl _,Hp.apart_of_le l a,fun _ _ e=> .inl e⟩)
  exact this)
theorem zU (hr:Region.ready .any ops L=[]) (h:jh c n Q .normal m (OW++O) R):vn P ops Q c n wi k L m OW O R:=fun hQ hs hcl a w hw hr' g f s1 s2 ap mm=>by
  have:=h a w f ⟨_,g,mm⟩
  cases k with
  |zero=>exact ⟨hr,this⟩
  |succ k=>exact ⟨fun _=>this,fun i hi=>by rw [hr] at hi;cases hi⟩
theorem ZG {X:Type} {φ:X→Prop} {R1:X→List Fa} (h:∀g,Holds g R→∃x,φ x∧Holds g (R1 x)) (kont:∀x,φ x→vn P ops Q c n wi k L m OW O (R1 x++R)):vn P ops Q c n wi k L m OW O R:=fun hQ hs hcl a w hw hr g f s1 s2 ap mm=>by
  obtain ⟨x,hx,hR⟩:=h g mm.holds
  exact kont x hx hQ hs hcl a w hw hr g f s1 s2 ap ⟨mm.sep,Holds.app hR mm.holds,mm.apart,mm.hasH,mm.hasG,mm.le,mm.newG,mm.newH,mm.kept⟩
theorem Qw {α:Type} (i:Nat) {T:TypeId} {r:Rp α} {p:Option Addr} {cap:Nat} {xs:List α} {O2:List As} (hi:O[i]? =some (rowA T r p cap xs)) (hs':Qp i O emA O2) (kont:vn P ops Q c n wi k L m OW O2 (zI r p cap xs :: R)):vn P ops Q c n wi k L m OW O R:=fun hQ hs hcl a w hw hr g f s1 s2 ap mm=>by
  obtain ⟨h1,h2,a12,e,hA,hO,put⟩:=vG.pick i hi s2
  subst e
  have hgap:h1.apart g:=(Hp.apart_join.1 (Hp.apart_join.1 mm.apart).2).1
  have hfact:=zbP hA hgap
  have hle:g.le (g.join h1):=Hp.le_joinL _ _
  have apw:=Hp.apart_joinR.1 ap
  have hg2:=Hp.apart_join.1 mm.apart
  have hg3:=Hp.apart_join.1 hg2.2
  have sO2:vG (g.join h1) O2 h2:=by
    have:vG (g.join h1) (emA :: O.eraseIdx i) (Hp.emp.join h2):=⟨Hp.emp,h2,Hp.emp_apart _,rfl,rfl,vG.mono hle hO⟩
    have:=vG.perm (JM emA hi) this
    unfold Qp at hs'
    rw [hs']
    simpa [Hp.emp_join] using this
  have hasw:Has w (hw.join h2):=Has.mono mm.hasH (Hp.join_le (Hp.le_joinL _ _) (Hp.le_trans (Hp.le_joinR a12) (Hp.le_joinR ap)))
  have hash1:Has w h1:=Has.mono mm.hasH (Hp.le_trans (Hp.le_joinL h1 h2) (Hp.le_joinR ap))
  have mm2:MemAt c w (OW++O2) (zI r p cap xs :: R) (hw.join h2) (g.join h1):=by
    refine ⟨vG.app (vG.mono hle s1) sO2 apw.2,⟨hfact,Holds.mono hle mm.holds⟩,?_,hasw,Has.join mm.hasG hash1,Hp.le_trans mm.le hle,?_,?_,mm.kept⟩
    · exact Hp.apart_join.2 ⟨Hp.apart_joinR.2 ⟨hg2.1,apw.1⟩,Hp.apart_joinR.2 ⟨hg3.2,Hp.apart_symm a12⟩⟩
    · intro b e nn
      by_cases hgb:g b=none
      · have hb1 : h1 b ≠ none := fun x => nn (Hp.join_none.2 ⟨hgb, x⟩)
        by_cases d:c.D b=none
        · refine .inl (mm.newH b d (fun x => hb1 ?_))
          exact (Hp.join_none.1 (Hp.join_none.1 x).2).1
        · exact .inr d
      · exact mm.newG b e hgb
    · intro b e nn
      refine mm.newH b e (fun x=>nn ?_)
      have x1:=Hp.join_none.1 x
      exact Hp.join_none.2 ⟨x1.1,(Hp.join_none.1 x1.2).2⟩
  refine ZA (S':=SL wi hw h2 (g.join h1)) (fun L w2 ⟨x1,x2,x3⟩=>⟨Has.join (Has.mono x2 (Hp.le_joinR (Hp.apart_symm hgap))) x1,Has.mono x2 hle,x3⟩) _ _ _ _ (kont hQ hs hcl a w hw h2 (g.join h1) f (vG.mono hle s1) sO2 apw.2 mm2)
end
end Sp
namespace Sp
open Go
def QI (b:Nat) (o:Obj):As:=⟨fun _ h=>h=Hp.single b o,fun _ _ _ _ h=>h⟩
section
variable {P : Program} {Q : Exit → Act → World → Prop} {c : Cx} {n : Sz} {m : Fm} {O : List As} {R : List Fa}
theorem vR.obj {w:World} {b:Nat} {o:Obj} (mm:vR c w (QI b o :: O) R):w.heap[b]? =some o:=by
  obtain ⟨h,g,mm⟩:=mm
  obtain ⟨h1,h2,a,e,x,y⟩:=mm.sep
  have hx:h1=Hp.single b o:=x
  exact mm.hasH b o (by rw [e,hx];exact Hp.le_joinL _ _ _ _ (Hp.single_self _ _))
theorem vR.putO {w:World} {b:Nat} {o o':Obj} (mm:vR c w (QI b o :: O) R):vR c (w.putObj b o') (QI b o' :: O) R:=by
  have hb:=mm.obj
  obtain ⟨h,g,s,r,ap,h1,h2,hfin⟩:=vR.framed (O:=[QI b o]) (F:=O) mm
  obtain ⟨k1,k2,a,e,x,y⟩:=s
  have hx:k1=Hp.single b o:=x
  have hy:k2=Hp.emp:=y
  subst hx hy
  rw [Hp.join_emp] at e
  subst e
  have:=hfin (w.putObj b o') [QI b o'] [] (Wc ap h1 h2 (A:=QI b o') rfl (World.putObj_heap_same (yc.1 hb).1) (fun k hk=>World.putObj_heap_other hk) (by simp) rfl rfl rfl)
  simpa using this
theorem vR.allocO {w:World} {o:Obj} (mm:vR c w O R):vR c (w.alloc o) (QI w.heap.size o :: O) R:=by
  obtain ⟨h,g,s,r,ap,h1,h2,hfin⟩:=vR.framed (O:=[]) (F:=O) mm
  have e:h=Hp.emp:=s
  subst e
  have:=hfin (w.alloc o) [QI w.heap.size o] [] (Vz h1 h2 (A:=QI w.heap.size o) rfl)
  simpa using this
theorem vR.dropO {w:World} {A:As} (mm:vR c w (A :: O) R):vR c w O R:=mm.weaken fun h g s r a=>by
  obtain ⟨h1,h2,a1,e,x,y⟩:=s
  subst e
  exact ⟨h2,g,y,r,Hp.le_joinR a1,Hp.le_refl _,(Hp.apart_join.1 a).2,fun b o e=> .inl e⟩
def zsb (P:Program) (gf:Nat) (lb:List Value) (fa:List Fa) (N:Nat) (encs:Nat→List Value):Prop:=
  ∀(l:Nat) (c:Cx) {X Y:Type} (φ:X→Nat→Prop) (ψ:Y→Prop) (OO:X→List As) (RR:X→List Fa) (OS:Y→List As) (RS:Y→List Fa),
    (∀x k w,k<N→φ x (k+1)→vR c w (OO x) (fa++RR x)→YieldAt (FR none) 0 P l (encs k).toArray w fun e w'=>
      (e= .returned (.bool true)∧∃x',φ x' k∧vR c w' (OO x') (fa++RR x'))∨(e= .returned (.bool false)∧∃y,ψ y∧vR c w' (OS y) (RS y)))→
    ∀x w,φ x N→vR c w (OO x) (fa++RR x)→CallsIn (FR none) 0 P gf ([Value.func (.yield l) #[] #[]]++lb).toArray w fun e w'=>
      (∃v,e= .returned v)∧((∃x',φ x' 0∧vR c w' (OO x') (fa++RR x'))∨(∃y,ψ y∧vR c w' (OS y) (RS y)))
def zl1 {X Y:Type} (P:Program) (fn:Func) (c:Cx) (φ:X→Prop) (ψ:Y→Prop) (OO:X→List As) (RR:X→List Fa) (OS:Y→List As) (RS:Y→List Fa):Exit→Act→World→Prop:=
  bodyPost P fn (fun e w'=>(∃v,e= .returned v)∧((∃x',φ x'∧vR c w' (OO x') (RR x'))∨(∃y,ψ y∧vR c w' (OS y) (RS y))))
theorem zhv {gf:Nat} {fn:Func} {code:Code} {k:Nat} {lb:List Value} {fa:List Fa} {N:Nat} {encs:Nat→List Value}
    (hf:P.funcs[gf]? =some fn) (hb:fn.body=some code) (hn:fn.ntmps=k) (hl:yf (lb.length+1) k=true)
    (h:∀(l:Nat) (c:Cx) (X Y:Type) (φ:X→Nat→Prop) (ψ:Y→Prop) (OO:X→List As) (RR:X→List Fa) (OS:Y→List As) (RS:Y→List Fa),
      (∀x k w,k<N→φ x (k+1)→vR c w (OO x) (fa++RR x)→YieldAt (FR none) 0 P l (encs k).toArray w fun e w'=>
        (e= .returned (.bool true)∧∃x',φ x' k∧vR c w' (OO x') (fa++RR x'))∨(e= .returned (.bool false)∧∃y,ψ y∧vR c w' (OS y) (RS y)))→
      ∀x,φ x N→vm (ro:=none) P (zl1 P fn c (fun x=>φ x 0) ψ OO (fun x=>fa++RR x) OS RS) c ⟨k,[]⟩ code (zkz 0 (.func (.yield l) #[] #[] :: lb)) (OO x) (fa++RR x)):zsb P gf lb fa N encs:=by
  intro l c X Y φ ψ OO RR OS RS H x w hx hm
  refine callsIn_of_wp hf hb trivial ?_
  refine h l c X Y φ ψ OO RR OS RS H x hx _ w ⟨rfl,?_,?_⟩ hm
  · have : lb.length + 1 ≤ k := yA hl
    simp [hn];omega
  · intro t v e
    obtain ⟨_,h3⟩:=zbM (.func (.yield l) #[] #[] :: lb) 0 t v e
    have h3':(Value.func (.yield l) #[] #[] :: lb)[t]? =some v:=by simpa using h3
    have:=(yb.1 h3').1
    have e1:([Value.func (.yield l) #[] #[]]++lb)=Value.func (.yield l) #[] #[] :: lb:=rfl
    simp only [e1,yG,yv,this,if_true]
    simpa using h3'
section
variable {X Y : Type} {k : Nat} {fn : Func} {φ : X → Prop} {ψ : Y → Prop} {OO : X → List As} {RR : X → List Fa} {OS : Y → List As} {RS : Y → List Fa}
theorem zfL (hr:fn.results= #[]) (x:X) (hx:φ x) (hmem:∀w,vR c w O R→vR c w (OO x) (RR x)):jh c ⟨k,[]⟩ (zl1 P fn c φ ψ OO RR OS RS) .ret m O R:=fun a w f mm=>
  ⟨f.defers,.tuple #[],by simp [Ve,hr],⟨_,rfl⟩,.inl ⟨x,hx,hmem w mm⟩⟩
theorem zfM (hr:fn.results= #[]) (y:Y) (hy:ψ y) (hmem:∀w,vR c w O R→vR c w (OS y) (RS y)):jh c ⟨k,[]⟩ (zl1 P fn c φ ψ OO RR OS RS) .ret m O R:=fun a w f mm=>
  ⟨f.defers,.tuple #[],by simp [Ve,hr],⟨_,rfl⟩,.inr ⟨y,hy,hmem w mm⟩⟩
theorem zsc (h:jh c ⟨k,[]⟩ (zl1 P fn c φ ψ OO RR OS RS) .ret m O R):jh c ⟨k,[]⟩ (zl1 P fn c φ ψ OO RR OS RS) .normal m O R:=h
end
theorem vR.freezeB {w:World} (i:Nat) {b:Nat} {T:TypeId} {cells:List Value} {O2:List As} (hi:O[i]? =some (zK b T cells)) (hs:Qp i O emA O2) (mm:vR c w O R):vR c w O2 (j8 b 0 cells :: R):=by
  obtain ⟨_,_,m2⟩:=vR.turn (X:=Unit) (φ:=fun _=>True) (A':=fun _=>emA) (R':=fun _=>[j8 b 0 cells]) i hi (fun g h _ hA ap=>⟨(),Hp.emp,h,trivial,rfl,Hp.emp_apart _,rfl,by
    have e:h=Hp.single b (.cells cells.toArray T (0,0)):=hA
    refine ⟨⟨cells.toArray,T,(0,0),?_,fun j v hv=>by simpa using hv⟩,trivial⟩
    subst e
    exact Hp.le_joinR (Hp.apart_symm ap) _ _ (Hp.single_self _ _)⟩) mm
  unfold Qp at hs
  rw [hs]
  exact m2
theorem vU {x:Code} {ro:Option Nat} (i:Nat) {b:Nat} {T:TypeId} {cells:List Value} {O2:List As} (hi:O[i]? =some (zK b T cells)) (hs:Qp i O emA O2) (k:vm (ro:=ro) P Q c n x m O2 (j8 b 0 cells :: R)):vm (ro:=ro) P Q c n x m O R:=fun a w f mm=>k a w f (mm.freezeB i hi hs)
theorem zkD {e:Exit} (i:Nat) {b:Nat} {T:TypeId} {cells:List Value} {O2:List As} (hi:O[i]? =some (zK b T cells)) (hs:Qp i O emA O2) (k:jh c n Q e m O2 (j8 b 0 cells :: R)):jh c n Q e m O R:=fun a w f mm=>k a w f (mm.freezeB i hi hs)
theorem Zj {α:Type} {x:Code} {ro:Option Nat} (T:TypeId) (r:Rp α) (k:vm (ro:=ro) P Q c n x m (rowA T r none 0 [] :: O) R):vm (ro:=ro) P Q c n x m O R:=fun a w f mm=>by
  refine k a w f ?_
  obtain ⟨h,g,mm⟩:=mm
  exact ⟨h,g,⟨Hp.emp,h,Hp.emp_apart h,rfl,.inl ⟨rfl,rfl,rfl,rfl⟩,mm.sep⟩,mm.holds,mm.apart,mm.hasH,mm.hasG,mm.le,mm.newG,mm.newH,mm.kept⟩
theorem vR.nilF {α:Type} {w:World} (r:Rp α) (mm:vR c w O R):vR c w O (zI r none 0 [] :: R):=by
  obtain ⟨h,g,mm⟩:=mm
  exact ⟨h,g,mm.sep,⟨Sl.nil r g,mm.holds⟩,mm.apart,mm.hasH,mm.hasG,mm.le,mm.newG,mm.newH,mm.kept⟩
theorem QR {α:Type} {e:Exit} (r:Rp α) (k:jh c n Q e m O (zI r none 0 [] :: R)):jh c n Q e m O R:=fun a w f mm=>k a w f (mm.nilF r)
theorem zl2 {α:Type} {x:Code} {ro:Option Nat} (r:Rp α) (k:vm (ro:=ro) P Q c n x m O (zI r none 0 [] :: R)):vm (ro:=ro) P Q c n x m O R:=fun a w f mm=>k a w f (mm.nilF r)
theorem zpk {X Y:Type} {φ:X→Prop} {ψ:Y→Prop} {OO:X→List As} {RR:X→List Fa} {OS:Y→List As} {RS:Y→List Fa} {ops:Array Oper} {l:List Oper}
    {t0:Tmp} {fo:Operand} {xs:List Operand} {ats:Array TypeId} {ty:TypeId} {ps:String} {af:Array Edge} {gd:Option (Nat×Bool)} {l0:Nat} {vs:List Value}
    (hw:j3 ops m ⟨some t0,.call ⟨.value fo,xs.toArray,ats⟩,ty,ps,af,gd⟩=some true) (hd:yf (t0+1) n.sz=true)
    (hf:vz m fo=some (.func (.yield l0) #[] #[])) (hx:evs m xs vs)
    (H:∀w,vR c w O R→YieldAt (FR none) 0 P l0 vs.toArray w fun e w'=>(e= .returned (.bool true)∧∃x,φ x∧vR c w' (OO x) (RR x))∨(e= .returned (.bool false)∧∃y,ψ y∧vR c w' (OS y) (RS y)))
    (k1:∀x,φ x→ve (ro:=none) P ops Q c n l ((t0,.bool true) :: m) (OO x) (RR x))
    (k2:∀y,ψ y→ve (ro:=none) P ops Q c n l ((t0,.bool false) :: m) (OS y) (RS y)):
    ve (ro:=none) P ops Q c n (⟨some t0,.call ⟨.value fo,xs.toArray,ats⟩,ty,ps,af,gd⟩ :: l) m O R:=by
  intro a w f mm
  unfold wpListIn
  rw [if_pos (f.wanted hw)]
  refine ⟨fun _ _=>trivial,?_⟩
  have e1:a.eval fo=_:=f.ev hf
  have e2:xs.toArray.map a.eval=vs.toArray:=by rw [yx,evs.map f hx]
  obtain ⟨fn,tmps,assign,body,hy,hR⟩:=H w mm
  have hrun:(execOp a.eval ⟨some t0,.call ⟨.value fo,xs.toArray,ats⟩,ty,ps,af,gd⟩).run P w= .ok (.round l0 fn tmps assign body) w:=by
    simp only [execOp,resolve,e1,e2,Deferred.ofValue,Sem.run_bind,Sem.run_pure,Result.andThen_ok,invoke]
    simpa using hy
  rw [Oper.semAt_eq _ _ _ (fun c e=>by cases e),hrun,Oper.uponIn_round]
  refine ⟨fun e=>(by cases e),?_⟩
  refine RoundIn.mono hR ?_
  rintro e w' (⟨rfl,x,hx',m'⟩|⟨rfl,y,hy',m'⟩)
  · exact k1 x hx' _ _ (f.put (d:=some t0) hd _) m'
  · exact k2 y hy' _ _ (f.put (d:=some t0) hd _) m'
def zhw {X Y:Type} (c:Cx) (l D:Nat) (o1 o2:Obj) (φ:X→Prop) (ψ:Y→Prop) (OO:X→List As) (RR:X→List Fa) (OS:Y→List As) (RS:Y→List Fa):Exit→Act→World→Prop
  | .normal,_,w=>∃x,φ x∧vR c w (QI l o1 :: QI D o2 :: OO x) (RR x)
  | .ret,_,w=>∃y,ψ y∧vR c w (QI l o1 :: QI D o2 :: OS y) (RS y)
  |_,_,_=>False
section
variable {X Y : Type} {l D : Nat} {o1 o2 : Obj} {φ : X → Prop} {ψ : Y → Prop} {OO : X → List As} {RR : X → List Fa} {OS : Y → List As} {RS : Y → List Fa}
theorem zek (x:X) (hx:φ x) {is js:List Nat} (ho:zJ is O (QI l o1 :: QI D o2 :: OO x)) (hs:q9 js R (RR x)):jh c n (zhw c l D o1 o2 φ ψ OO RR OS RS) .normal m O R:=fun a w f mm=>⟨x,hx,mm.sel ho hs⟩
theorem zfN (y:Y) (hy:ψ y) {is js:List Nat} (ho:zJ is O (QI l o1 :: QI D o2 :: OS y)) (hs:q9 js R (RS y)):jh c n (zhw c l D o1 o2 φ ψ OO RR OS RS) .ret m O R:=fun a w f mm=>⟨y,hy,mm.sel ho hs⟩
end
def zpl:List Tmp→List Value→Fm→Fm
  |t :: ts,v :: vs,m=>zpl ts vs ((t,v) :: m)
  |_,_,m=>m
theorem Fr.zip:∀{ts:List Tmp} {vs:List Value} {a:Act} {m:Fm},Fr n a m→(∀t∈ts,yf (t+1) n.sz=true)→Fr n {a with tmps:=(ts.zip vs).foldl (fun x (t,v)=>x.setIfInBounds t v) a.tmps} (zpl ts vs m)
  |[],_,_,_,f,_=>f
  |_ :: _,[],_,_,f,_=>f
  |t :: ts,v :: vs,a,m,f,h=>by
    have f':=f.put (d:=some t) (h t (List.mem_cons_self ..)) v
    exact Fr.zip (ts:=ts) (vs:=vs) (a:=a.put (some t) v) (m:=(t,v) :: m) f' (fun u hu=>h u (List.mem_cons_of_mem _ hu))
theorem zel {g:Operand} {gf:Nat} {lb:List Value} {ps:List Tmp} {assign body:Code} {fa:List Fa} {N:Nat} {encs:Nat→List Value}
    (hg:vz m g=some (.func (.func gf) #[] lb.toArray)) (hce:CanEnter P gf) (hB:zsb P gf lb fa N encs) (hps:∀k,(encs k).length=ps.length) (hpt:ps.all (fun t=>yf (t+1) n.sz)=true)
    {X Y:Type} (φ:X→Nat→Prop) (ψ:Y→Prop) (OO:X→List As) (RR:X→List Fa) (OS:Y→List As) (RS:Y→List Fa) (M1:Nat→Fm)
    (x0:X) (hx0:φ x0 N) {is js:List Nat} (ho:zJ is O (OO x0)) (hr:q9 js R (fa++RR x0))
    (hassign:∀(l k:Nat) (O':List As) (R':List Fa) (Q':Exit→Act→World→Prop),jh c ⟨n.sz,[]⟩ Q' .normal (M1 k) O' R'→vm (ro:=some l) P Q' c ⟨n.sz,[]⟩ assign (zpl ps (encs k) m) O' R')
    (hbody:∀(l D:Nat) (o1 o2:Obj) (x:X) (k:Nat),k<N→φ x (k+1)→vm (ro:=some l) P (zhw c l D o1 o2 (fun x'=>φ x' k) ψ OO (fun x'=>fa++RR x') OS RS) c ⟨n.sz,[]⟩ body (M1 k) (QI l o1 :: QI D o2 :: OO x) (fa++RR x))
    (hdone:∀D x,φ x 0→jh c ⟨n.sz,{target:= .collected D,args:= #[]} :: n.ds⟩ Q .normal m (QI D (.deferred (some [])) :: OO x) (fa++RR x))
    (hstop:∀D y,ψ y→jh c ⟨n.sz,{target:= .collected D,args:= #[]} :: n.ds⟩ Q .ret m (QI D (.deferred (some [])) :: OS y) (RS y)):
    vm (ro:=none) P Q c n (.rangeFunc g ps.toArray assign body) m O R:=by
  intro a w f mm
  refine wpIn_rangeFunc ?_
  intro fn hfn
  have hgv:a.eval g= .func (.func gf) #[] lb.toArray:=f.ev hg
  have hst:=(mm.sel ho hr).allocO (o:= .deferred (some []))
  obtain ⟨rec,hrec⟩:∃rec:LoopState→Option Code→Loop,rec=fun st pe=>{state:=st,pending:=pe,fn,tmps:=a.tmps,params:=ps.toArray,assign,body,defers:=w.heap.size}:=⟨_,rfl⟩
  have hst2:=hst.allocO (o:= .loop (rec .ready none))
  have hsz:(w.alloc (.deferred (some []))).heap.size=w.heap.size+1:=by simp
  rw [hsz] at hst2
  obtain ⟨W1,hW1⟩:∃W1,(w.alloc (.deferred (some []))).alloc (.loop (rec .ready none))=W1:=⟨_,rfl⟩
  have hent:=run_enterLoop_outer (P:=P) (w:=w) fn a.tmps ps.toArray assign body
  rw [hrec] at hW1
  rw [hW1] at hent
  rw [hrec] at hst2
  rw [hW1,←hrec] at hst2
  refine ⟨w.heap.size+1,[{target:= .collected w.heap.size,args:= #[]}],W1,{target:= .fn (.func gf) lb.toArray,args:= #[.func (.yield (w.heap.size+1)) #[] #[]]},W1,gf,
    ([Value.func (.yield (w.heap.size+1)) #[] #[]]++lb).toArray,W1,hent,?_,fun _ _=>trivial,?_,fun e=>(by cases e),?_⟩
  · simp only [resolve, hgv]
    simp [go_sem]
  · have := hce.go (#[.func (.yield (w.heap.size + 1)) #[] #[]] ++ lb.toArray)
    simp only [invoke]
    simpa using this _
  · have key:=hB (w.heap.size+1) c (X:=X) (Y:=Y) φ ψ (fun x=>QI (w.heap.size+1) (.loop (rec .ready none)) :: QI w.heap.size (.deferred (some [])) :: OO x) RR
      (fun y=>QI (w.heap.size+1) (.loop (rec .done (some .ret))) :: QI w.heap.size (.deferred (some [])) :: OS y) RS ?_ x0 _ hx0 (by rw [hrec] at hst2 ⊢;exact hst2)
    · refine ⟨key.1, fun cs hroom => ?_⟩
      obtain ⟨e,w',fr,hq,rest⟩:=key.2 cs hroom
      refine ⟨e,w',fr,?_,rest⟩
      obtain ⟨⟨v,rfl⟩,hq⟩:=hq
      have fr':Fr ⟨n.sz,{target:= .collected w.heap.size,args:= #[]} :: n.ds⟩ {a with defers:=[{target:= .collected w.heap.size,args:= #[]}]++a.defers} m:=⟨by simp [f.defers],f.size,f.tmp⟩
      rcases hq with ⟨x,hx,m'⟩|⟨y,hy,m'⟩
      · refine ⟨none, _, ?_, hdone _ x hx _ _ fr' (m'.putO (o' := .loop { rec .ready none with state := .exhausted })).dropO⟩
        have:=run_endLoop (P:=P) m'.obj (by rw [hrec];simp)
        rw [hrec] at this ⊢
        exact this
      · refine ⟨some .ret, _, ?_, wpIn_ret (hstop _ y hy _ _ fr' (m'.putO (o' := .loop { rec .done (some .ret) with state := .exhausted })).dropO)⟩
        have:=run_endLoop (P:=P) m'.obj (by rw [hrec];simp)
        rw [hrec] at this ⊢
        exact this
    · intro x k W hk hx mW
      have hl:=mW.obj
      have hy:=run_yield (P:=P) (args:=(encs k).toArray) hl (by rw [hrec];simpa using hps k)
      rw [hrec] at hy
      refine ⟨fn,_,assign,body,hy,roundIn_of_wpIn hfn ?_⟩
      have hFr:Fr ⟨n.sz,[]⟩ {tmps:=(ps.toArray.zip (encs k).toArray).foldl (fun x (t,v)=>x.setIfInBounds t v) a.tmps,defers:=[]} (zpl ps (encs k) m):=by
        have:=Fr.zip (n:=⟨n.sz,[]⟩) (ts:=ps) (vs:=encs k) (a:=⟨a.tmps,[]⟩) (m:=m) ⟨rfl,f.size,f.tmp⟩ (by simpa using hpt)
        simpa [List.zip_toArray] using this
      refine hassign (w.heap.size+1) k (QI (w.heap.size+1) (.loop (rec .ready none)) :: QI w.heap.size (.deferred (some [])) :: OO x) (fa++RR x) _ ?_ _ _ hFr mW
      intro a1 w1 f1 m1
      refine ⟨_,run_beginRound m1.obj (by rw [hrec]),?_⟩
      have m2:=m1.putO (o':= .loop {rec .ready none with state:= .busy})
      refine wpIn_mono (hbody (w.heap.size+1) w.heap.size (.loop {rec .ready none with state:= .busy}) (.deferred (some [])) x k hk hx _ _ f1 m2) ?_
      intro e a3 w3 hp
      cases e with
      |normal=>
        obtain ⟨x',hx',m3⟩:=hp
        have hr3:=run_endRound (P:=P) none m3.obj
        refine ⟨_,_,hr3,.inl ⟨rfl,x',hx',?_⟩⟩
        have:=m3.putO (o':= .loop (rec .ready none))
        rw [hrec] at this ⊢
        exact this
      |ret=>
        obtain ⟨y,hy',m3⟩:=hp
        have hr3:=run_endRound (P:=P) (some .ret) m3.obj
        refine ⟨_,_,hr3,.inr ⟨rfl,y,hy',?_⟩⟩
        have:=m3.putO (o':= .loop (rec .done (some .ret)))
        rw [hrec] at this ⊢
        exact this
      |exit id=>exact hp.elim
      |goto t=>exact hp.elim
      |panic ch=>exact hp.elim
      |outgrown=>exact hp.elim
def zsd {Y:Type} (P:Program) (fn:Func) (c:Cx) (φ:Y→Prop) (val:Y→Value) (O':Y→List As) (R':Y→List Fa):Exit→Act→World→Prop:=
  bodyPostM (FR none) 0 P fn (fun e w'=>∃y,e= .returned (val y)∧φ y∧vR c w' (O' y) (R' y))
theorem WJ {f:Nat} {fn:Func} {code:Code} {args:List Value} {Y:Type} {φ:Y→Prop} {val:Y→Value} {O':Y→List As} {R':Y→List Fa}
    {k:Nat} (hf:P.funcs[f]? =some fn) (hb:fn.body=some code) (hn:fn.ntmps=k) (hl:yf args.length k=true)
    (h:∀c:Cx,vm (ro:=none) P (zsd P fn c φ val O' R') c ⟨k,[]⟩ code (zkz 0 args) O R):jI P f args O R φ val O' R':=by
  intro w hh g s r ap h1 h2
  refine (callsIn_wide (n:=0)).1 (callsIn_of_wp_marks hf hb trivial ?_)
  refine h ⟨w,hh,g⟩ _ w ⟨rfl,?_,?_⟩ ⟨hh,g,vR.start s r ap h1 h2⟩
  · have : args.length ≤ k := yA hl
    simp [hn];omega
  · intro t v e
    obtain ⟨_,h3⟩:=zbM args 0 t v e
    have h3':args[t]? =some v:=by simpa using h3
    have:=(yb.1 h3').1
    simp only [yG,yv,this,if_true]
    simpa using h3'
section
variable {Y : Type} {n : Nat} {fn : Func} {φ : Y → Prop} {val : Y → Value} {O1 : Y → List As} {R1 : Y → List Fa}
theorem zjj (h:jh c ⟨n,[]⟩ (Ret P fn c φ val O1 R1) .ret m O R):jh c ⟨n,[]⟩ (zsd P fn c φ val O1 R1) .ret m O R:=fun a w f mm=>by
  obtain ⟨hd,v,hr,y,hy⟩:=h a w f mm
  show LeavesInM _ _ _ _ _ _ a.defers _ _
  rw [hd]
  exact ⟨v,hr,y,hy⟩
theorem zem {D:Nat} {ds:List Deferred} (i:Nat) (hi:O[i]? =some (QI D (.deferred (some ds)))) (hds:ds=[])
    (h:jh c ⟨n,[]⟩ (Ret P fn c φ val O1 R1) .ret m (O.eraseIdx i) R):jh c ⟨n,[{target:= .collected D,args:= #[]}]⟩ (zsd P fn c φ val O1 R1) .ret m O R:=fun a w f mm=>by
  subst hds
  have m1:=mm.perm (qP hi)
  have m2:=(m1.putO (o':= .deferred none)).dropO
  obtain ⟨hd,v,hr,y,hy⟩:=h {a with defers:=[]} _ ⟨rfl,f.size,f.tmp⟩ m2
  show LeavesInM _ _ _ _ _ _ a.defers _ _
  rw [f.defers]
  exact ⟨by simp,.inl ⟨D,_,rfl,run_takeDeferred m1.obj,v,hr,y,hy⟩⟩
end
end
end Sp
namespace Sp
open Go
section
variable {P : Program} {Q : Exit → Act → World → Prop} {c : Cx} {n : Sz} {ops : Array Oper} {o : Oper} {m m' : Fm} {OW O O' OW' : List As} {R R' : List Fa} {k wi : Nat} {L : Array Bool}
theorem jr {i:Nat} (hi:ops[i]? =some o) {Y:Type} {φ:Y→Prop} {val:Y→Value} {O1:Y→List As} {R1:Y→List Fa} (h:Ef P n o m [] R φ val O1 R1) (kont:∀y,φ y→vn P ops Q c n wi k (L.setIfInBounds i true) (KB m o.dst (val y)) (O1 y++OW) O (R1 y++R)) (hne:yj i wi=false:=by exact rfl) (hw':j3 ops m o=some true:=by exact rfl) (hd:okT n o.dst=true:=by exact rfl):JN P ops Q c n wi k L i m OW O R:=fun hQ hs hcl hrd a w hw hr g f s1 s2 ap mm=>by
  unfold wpOp
  simp only [hi]
  rw [if_pos (f.wanted hw')]
  refine .inl<|WpB.wp (h a f w Hp.emp g rfl mm.holds (Hp.emp_apart g) (fun _ _ e=>by cases e) mm.hasG _ _ fun y w' hy hM=> ?_)
  have mm0:MemAt c w ([]++(OW++O)) R (Hp.emp.join (hw.join hr)) g:=by simpa [Hp.emp_join] using mm
  obtain ⟨h',g',mm',sO',sF,ap',le'⟩:=MemAt.framed (O:=[]) (F:=OW++O) rfl mm.sep (Hp.emp_apart _) mm0 hM
  have ap2:=Hp.apart_joinR.1 ap'
  have hasj:Has w' (hw.join hr):=Has.mono mm'.hasH (Hp.le_joinR ap')
  have hasr:Has w' hr:=Has.mono hasj (Hp.le_joinR ap)
  have hash:Has w' h':=Has.mono mm'.hasH (Hp.le_joinL _ _)
  have hasw:Has w' hw:=Has.mono hasj (Hp.le_joinL _ _)
  refine ⟨⟨hasr,Has.mono mm'.hasG le',fun _=>hasw⟩,?_⟩
  have apn:(h'.join hw).apart hr:=Hp.apart_join.2 ⟨ap2.2,ap⟩
  have hsep:vG g' (O1 y++OW) (h'.join hw):=vG.app sO' (vG.mono le' s1) ap2.1
  have mm2:MemAt c w' ((O1 y++OW)++O) (R1 y++R) ((h'.join hw).join hr) g':=by
    rw [Hp.join_assoc]
    exact ⟨by rw [← Hp.join_assoc];exact vG.app hsep (vG.mono le' s2) apn,mm'.holds,mm'.apart,mm'.hasH,mm'.hasG,mm'.le,mm'.newG,mm'.newH,mm'.kept⟩
  exact ZA (S':=SL wi (h'.join hw) hr g') (fun L w2 ⟨x1,x2,x3⟩=>⟨x1,Has.mono x2 le',fun e=>Has.mono (x3 e) (Hp.le_joinR ap2.1)⟩) _ _ _ _ (kont y hy hQ hs (hcl.step hrd) _ w' (h'.join hw) hr g' (f.put hd _) hsep (vG.mono le' s2) apn mm2)
end
end Sp
namespace Sp
open Go
structure KeyIs {κ:Type} (P:Program) (k:TypeId) (enc:κ→Value) (ok:κ→Prop):Prop where
  keyed:Maps.Keyed P k
  key:∀a,ok a→∃l,keyOf P k (enc a)=some l
  inj:∀a b,enc a=enc b→a=b
section lists
variable {κ ν : Type} [DecidableEq κ]
end lists
structure MapEs {κ ν:Type} (encK:κ→Value) (encV:ν→Value) (ok:κ→Prop) (m:List (κ×ν)) (es:Array MapEntry) (clock:Nat):Prop where
  eq:es.toList.map (fun e=>(e.key,e.val))=m.map (fun p=>(encK p.1,encV p.2))
  born:(es.toList.map (·.born)).Nodup
  old:∀e∈es.toList,e.born<clock
  oks:∀p∈m,ok p.1
  nodup:(m.map (·.1)).Nodup
section
variable {κ ν : Type} [DecidableEq κ] {P : Program} {w : World} {k e t : TypeId} {encK : κ → Value} {encV : ν → Value} {ok : κ → Prop} {m : List (κ × ν)} {es : Array MapEntry} {clock : Nat}
theorem MapEs.size (h:MapEs encK encV ok m es clock):es.size=m.length:=by
  have:=congrArg List.length h.eq
  simpa using this
end
section
variable {κ ν : Type} [DecidableEq κ] {P : Program} {n : Sz} {fm : Fm} {O : List As} {R : List Fa} {d : Option Tmp} {ty k e t : TypeId} {ps : String} {af : Array Edge} {gd : Option (Nat × Bool)}
  {encK:κ→Value} {encV:ν→Value} {ok:κ→Prop} {m:List (κ×ν)}
end
end Sp
namespace Sp
open Go
section
variable {κ ν : Type} [DecidableEq κ] {P : Program} {Q : Exit → Act → World → Prop} {c : Cx} {n : Sz} {ro : Option Nat} {fm : Fm} {O : List As} {R : List Fa} {d : Option Tmp} {ty k e t : TypeId} {ps : String} {af : Array Edge} {gd : Option (Nat × Bool)}
  {encK:κ→Value} {encV:ν→Value} {ok:κ→Prop} {m:List (κ×ν)}
def zl3 (ro:Option Nat) (P:Program) (body:Code) (Q:Exit→Act→World→Prop) (a:Act) (w:World):Prop:=
  ∀(b:Frame) (kk:List Item) (cs:List Frame),b.roundOf=(FR ro).round→(FR ro).fn b.fn→(FR ro).room (cs.length+1+0)→
    ∃e a' w',Q e a' w'∧ArrivesIn (Machine.fenced P (FR ro)) P (lone (b.atR a (.code body :: .inLoop body :: kk)) cs w) b kk cs e a' w'
def zse {ro:Option Nat} (P:Program) (Q:Exit→Act→World→Prop) (c:Cx) (n:Sz) (body:Code) (m:Fm) (O:List As) (R:List Fa):Prop:=∀a w,Fr n a m→vR c w O R→zl3 ro P body Q a w
theorem zen {body:Code} (h:zse (ro:=ro) P Q c n body fm O R):vm (ro:=ro) P Q c n (.loop body) fm O R:=by
  intro a w f mm b kk cs hro hb hr
  obtain ⟨e,a',w',hq,harr⟩:=h a w f mm b kk cs hro hb hr
  exact ⟨e,a',w',hq,.of_steps (.one (fenced_calm hb hr rfl) stepR_loop) harr⟩
theorem Zd {body:Code} (h:vm (ro:=ro) P (Exit.then (zl3 ro P body Q) Q) c n body fm O R):zse (ro:=ro) P Q c n body fm O R:=by
  intro a w f mm b kk cs hro hb hr
  obtain ⟨e,a₁,w₁,hq,harr⟩:=h a w f mm b (.inLoop body :: kk) cs hro hb hr
  cases e with
  |normal=>
    obtain ⟨e₂,a₂,w₂,hq₂,harr₂⟩:=hq b kk cs hro hb hr
    exact ⟨e₂,a₂,w₂,hq₂,.of_steps (StepsIn.trans harr (.one (fenced_calm hb hr rfl) stepR_inLoop)) harr₂⟩
  |exit id=>exact ⟨_,a₁,w₁,hq,.pass (x:= .inLoop body) rfl (fun _ _=> .inl (by simp)) harr⟩
  |goto l=>exact ⟨_,a₁,w₁,hq,.pass (x:= .inLoop body) rfl (fun _ _=> .inl (by simp)) harr⟩
  |ret=>exact ⟨_,a₁,w₁,hq,.pass (x:= .inLoop body) rfl (fun _ _=> .inl (by simp)) harr⟩
  |panic ch=>exact ⟨_,a₁,w₁,hq,.pass (x:= .inLoop body) rfl (fun _ _=> .inl (by simp)) harr⟩
  |outgrown=>exact ⟨_,a₁,w₁,hq,.pass (x:= .inLoop body) rfl (fun _ _=> .inl (by simp)) harr⟩
theorem ZF {body:Code} (h:zse (ro:=ro) P Q c n body fm O R):jh c n (Exit.then (zl3 ro P body Q) Q) .normal fm O R:=h
end
end Sp
namespace Sp
open Go
def zdt (l:List As):As:=⟨fun g h=>vG g l h,fun _ _ _ hg s=>vG.mono hg s⟩
def ztF (l:List Fa):Fa:=⟨fun g=>Holds g l,fun _ _ hg s=>Holds.mono hg s⟩
abbrev RW (α:Type):=Option Addr×Nat×List α
def ov {α:Type} (z:RW α):Option Addr×Nat×Nat:=(z.1,z.2.2.length,z.2.1)
def rV:Rp (Option Addr×Nat×Nat):=fl 1 (fun z=>[.slice z.1 z.2.1 z.2.2]) (fun _=>True) (fun _=>rfl) (fun _=>rfl)
def iv {α:Type} (T:TypeId) (r:Rp α) (z:RW α):As:=rowA T r z.1 z.2.1 z.2.2
def zjl {α:Type} (T:TypeId) (r:Rp α) (zs:List (RW α)):As:=zdt (zs.map (iv T r))
theorem Hp.join_monoR {g k k':Hp} (h:k.le k'):(g.join k).le (g.join k'):=fun b o e=>by
  unfold Hp.join at*
  cases hg:g b with
  |some x=>rw [hg] at e;simpa using e
  |none=>rw [hg] at e;simpa using h _ _ e
section
variable {P : Program} {Q : Exit → Act → World → Prop} {c : Cx} {n : Sz} {ro : Option Nat} {ops : Array Oper} {l : List Oper} {m : Fm} {O O' : List As} {R R' : List Fa} {α : Type} {T : TypeId} {r : Rp α} {zs : List (RW α)}
theorem JO {x:Code} (h:∀w,vR c w O R→vR c w O' R') (k:vm (ro:=ro) P Q c n x m O' R'):vm (ro:=ro) P Q c n x m O R:=fun a w f mm=>k a w f (h w mm)
theorem ztG (h:∀w,vR c w O R→vR c w O' R') (k:ve (ro:=ro) P ops Q c n l m O' R'):ve (ro:=ro) P ops Q c n l m O R:=fun a w f mm=>k a w f (h w mm)
theorem ZH {e:Exit} (h:∀w,vR c w O R→vR c w O' R') (k:jh c n Q e m O' R'):jh c n Q e m O R:=fun a w f mm=>k a w f (h w mm)
theorem vR.resep {w:World} (h:∀g h,vG g O h→vG g O' h) (mm:vR c w O R):vR c w O' R:=by
  obtain ⟨hh,g,mm⟩:=mm
  exact ⟨hh,g,h _ _ mm.sep,mm.holds,mm.apart,mm.hasH,mm.hasG,mm.le,mm.newG,mm.newH,mm.kept⟩
theorem zl4 {g h:Hp} {l:List As} {A:As} {j:Nat} (hj:l[j]? =some A) (s:vG g (zdt l :: O) h):vG g (A :: zdt (l.eraseIdx j) :: O) h:=by
  obtain ⟨ha,hb,a,e,x,y⟩:=s
  obtain ⟨h1,h2,a2,e2,x1,x2,_⟩:=vG.pick j hj x
  subst e2;subst e
  have a':=Hp.apart_join.1 a
  exact ⟨h1,h2.join hb,Hp.apart_joinR.2 ⟨a2,a'.1⟩,Hp.join_assoc _ _ _,x1,h2,hb,a'.2,rfl,x2,y⟩
theorem zkE {g h:Hp} {l:List As} {A B:As} {j:Nat} (hj:l[j]? =some B) (s:vG g (A :: zdt (l.eraseIdx j) :: O) h):vG g (zdt (l.set j A) :: O) h:=by
  obtain ⟨h1,hr,a,e,x,h2,hb,a2,e2,y,z⟩:=s
  subst e2;subst e
  have a':=Hp.apart_joinR.1 a
  refine ⟨h1.join h2,hb,Hp.apart_join.2 ⟨a'.2,a2⟩,(Hp.join_assoc _ _ _).symm,?_,z⟩
  have:vG g (A :: l.eraseIdx j) (h1.join h2):=⟨h1,h2,a'.1,rfl,x,y⟩
  exact vG.perm (JM A hj) this
theorem zfO {g h:Hp}:∀{zs:List (RW α)} {h:Hp},vG g (zs.map (iv T r)) h→h.apart g→Holds (g.join h) (zs.map (fun z:RW α=>zI r z.1 z.2.1 z.2.2))
  |[],_,_,_=>trivial
  |z :: zs,h,⟨h1,h2,a,e,x,y⟩,ap=>by
    subst e
    have ap':=Hp.apart_join.1 ap
    have s1:Sl r (g.join h1) z.1 z.2.1 z.2.2:=zbP x ap'.1
    exact ⟨s1.mono (Hp.join_monoR (Hp.le_joinL _ _)),Holds.mono (Hp.join_monoR (Hp.le_joinR a)) (zfO (g:=g) (h:=h) y ap'.2)⟩
theorem vR.rowsFacts {w:World} (i:Nat) (hi:O[i]? =some (zjl T r zs)) (mm:vR c w O R):vR c w (O.set i emA) (ztF (zs.map (fun z:RW α=>zI r z.1 z.2.1 z.2.2)) :: R):=by
  obtain ⟨_,_,m'⟩:=vR.turn (X:=Unit) (φ:=fun _=>True) (A':=fun _=>emA) (R':=fun _=>[ztF (zs.map (fun z:RW α=>zI r z.1 z.2.1 z.2.2))]) i hi (fun g h _ hA ap=>⟨(),Hp.emp,h,trivial,rfl,Hp.emp_apart h,rfl,zfO (g:=g) (h:=h) hA ap,trivial⟩) mm
  exact m'
theorem zkF {g:Hp}:∀{zs:List (RW α)} (i:Nat) {z:RW α},zs[i]? =some z→Holds g (zs.map (fun z:RW α=>zI r z.1 z.2.1 z.2.2))→Sl r g z.1 z.2.1 z.2.2
  |zs,i,z,hz,h=>by
    have:=Holds.get i (R:=zs.map (fun z:RW α=>zI r z.1 z.2.1 z.2.2)) (r:=zI r z.1 z.2.1 z.2.2) (by rw [yP,hz];rfl) h
    exact this
theorem zpm {g:Hp} {p:Option Addr} {cap:Nat} (h1:Sl rV g p cap (zs.map ov)) (h2:Holds g (zs.map (fun z:RW α=>zI r z.1 z.2.1 z.2.2))):Sl (rS r) g p cap (zs.map (fun z:RW α=>z.2.2)):=by
  refine ⟨by simpa using h1.1,h1.2.1,h1.2.2.1,fun i x e=> ?_⟩
  rw [yP] at e
  cases hz:zs[i]? with
  |none=>rw [hz] at e;simp at e
  |some z=>
    rw [hz] at e;simp at e;subst e
    obtain ⟨b,off,γ,e1,e2,_⟩:=h1.2.2.2 i (ov z) (by rw [yP,hz];rfl)
    exact ⟨b,off,(z.1,z.2.1),e1,e2,zkF i hz h2⟩
theorem vR.rowsFreeze {w:World} (i q:Nat) {T0:TypeId} {p:Option Addr} {cap:Nat} (hi:O[i]? =some (rowA T0 rV p cap (zs.map ov))) (hq:(O.set i emA)[q]? =some (zjl T r zs)) (mm:vR c w O R):
    vR c w ((O.set i emA).set q emA) (zI (rS r) p cap (zs.map (fun z:RW α=>z.2.2)) :: R):=by
  have m1:=mm.freeze i hi (O2:=O.set i emA) rfl
  have m2:=m1.rowsFacts q hq
  obtain ⟨hh,g,m3⟩:=m2
  exact ⟨hh,g,m3.sep,⟨zpm m3.holds.2.1 m3.holds.1,m3.holds.2.2⟩,m3.apart,m3.hasH,m3.hasG,m3.le,m3.newG,m3.newH,m3.kept⟩
end
end Sp
namespace Sp
open Go
def EqR (P:Program) (d:Nat) (t:TypeId) (x y:Value) (b:Bool):Prop:=∀w:World,(Op.equalIn d t x y).run P w= .ok b w
def EqF (P:Program) (d:Nat) (xs ys:List Value) (fs:List Field) (b:Bool):Prop:=∀w:World,(Op.eqFields d xs.toArray ys.toArray fs).run P w= .ok b w
section
variable {P : Program} {d : Nat} {t e : TypeId} {xs ys : List Value} {r r' : Bool}
theorem Zl {k k':IntKind} {a b:Int} (hu:P.underlying t=some (.int k')):EqR P (d+1) t (.int k a) (.int k b) (decide (a=b)):=fun w=>by
  rw [run_equalIn_int w d t k k' a b hu]
  have:(a == b)=decide (a=b):=by by_cases h:a=b <;> simp [h]
  rw [this]
theorem zac:EqF P d xs ys [] true:=fun w=>by simp [Op.eqFields]
theorem Zm {f : Field} {fs : List Field} {x y : Value} {k : Nat} (hn : f.name ≠ "_") (ht : Ty P f.type k false) (hx : xs[f.offset]? = some x) (hy : ys[f.offset]? = some y) (h : EqR P d f.type x y r) (k' : EqF P d xs ys fs r') : EqF P d xs ys (f :: fs) (r && r') := fun w => by
  simp only [Op.eqFields,hn,ne_eq,not_false_eq_true,if_true,Sem.run_bind,VQ ht hx,VQ ht hy,Result.andThen_ok,h w]
  cases r
  · simp
  · simpa using k' w
theorem V7 {fs:List Field} (hu:P.underlying t=some (.struct fs.toArray)) (hs:P.stoodInHeld t=false) (h:EqF P d xs ys fs r):EqR P (d+1) t (.agg xs.toArray) (.agg ys.toArray) r:=fun w=>by
  have hf:P.fieldsOf t=fs.toArray:=by simp [Program.fieldsOf,hu]
  rw [run_equalIn_struct w d t _ _ (by rw [hf];exact hu) hs,hf]
  exact h w
variable {n : Sz} {m : Fm} {dd : Option Tmp} {ty t2 : TypeId} {ps : String} {af : Array Edge} {gd : Option (Nat × Bool)} {x y : Operand} {p : Prop} [Decidable p]
theorem J3 (hg:P.eqGuardType P.depth t=false) (h1:vz m x=some (.agg xs.toArray)) (h2:vz m y=some (.agg ys.toArray)) (h:EqR P 10000 t (.agg xs.toArray) (.agg ys.toArray) r) (hp:r=decide p):PV P n ⟨dd,.binOp .eql t x y t2,ty,ps,af,gd⟩ m (.bool (decide p)):=fun a w f=>by
  simp only [execOp,f.ev h1,f.ev h2,Sem.run_bind,run_eqGuard_agg w .eql t x y xs.toArray ys.toArray hg,Result.andThen_ok,run_eql_struct,h w,hp,Sem.run_pure]
theorem zhx (hg:P.eqGuardType P.depth t=false) (h1:vz m x=some (.agg xs.toArray)) (h2:vz m y=some (.agg ys.toArray)) (h:EqR P 10000 t (.agg xs.toArray) (.agg ys.toArray) r) (hp:r=decide p):PV P n ⟨dd,.binOp .neq t x y t2,ty,ps,af,gd⟩ m (.bool (decide (¬p))):=fun a w f=>by
  have e:(!decide p)=decide (¬p):=by simp
  simp only [execOp,f.ev h1,f.ev h2,Sem.run_bind,run_eqGuard_agg w .neq t x y xs.toArray ys.toArray hg,Result.andThen_ok,run_neq_struct,h w,hp,e,Sem.run_pure]
theorem zad {pp:Option Addr} {k cap:Nat} (hu:P.underlying t=some (.slice e)) (h1:vz m x=some (.slice pp k cap)) (h2:vz m y=some (.slice none 0 0)):PV P n ⟨dd,.binOp .eql t x y t2,ty,ps,af,gd⟩ m (.bool pp.isNone):=fun a w f=>by
  have hE0:∀d,(Op.equalIn (d+1) t (.slice pp k cap) (.slice none 0 0)).run P w= .ok pp.isNone w:=fun d=>by
    cases pp <;> simp [Op.equalIn,run_underlying hu]
  have hE:(Op.equal t (.slice pp k cap) (.slice none 0 0)).run P w= .ok pp.isNone w:=hE0 9999
  have hG:(eqGuard .eql t x y (.slice pp k cap) (.slice none 0 0)).run P w= .ok () w:=by
    cases pp <;> simp [eqGuard]
  simp only [execOp,f.ev h1,f.ev h2,Sem.run_bind,hG,Result.andThen_ok,binOp,hE,Sem.run_pure]
end
section
variable {P : Program} {Q : Exit → Act → World → Prop} {c : Cx} {n : Sz} {ro : Option Nat} {ops : Array Oper} {l : List Oper} {m m' : Fm} {O O' OW : List As} {R R' : List Fa}
variable {d : Option Tmp} {ty : TypeId} {ps : String} {af : Array Edge} {gd : Option (Nat × Bool)} {α : Type}
theorem zhy (p:O.Perm O') (h:ve (ro:=ro) P ops Q c n l m O' R):ve (ro:=ro) P ops Q c n l m O R:=fun a w f mm=>h a w f (mm.perm p)
theorem zbQ {A F:List As} {t0:Tmp} {fo:Operand} {xs:List Operand} {ats:Array TypeId} {f:Nat} {first cap vs:List Value} {js:List Nat} {Y:Type} {φ:Y→Prop} {val:Y→Value} {O1:Y→List As} {R1:Y→List Fa}
    (hw:j3 ops m ⟨some t0,.call ⟨.value fo,xs.toArray,ats⟩,ty,ps,af,gd⟩=some true) (hd:yf (t0+1) n.sz=true) (hf:vz m fo=some (.func (.func f) first.toArray cap.toArray)) (hx:evs m xs vs) (hc:CanEnter P f)
    (h:jI P f (first++vs++cap) A R' φ val O1 R1) (hs:q9 js R R')
    (k:∀y,φ y→ve (ro:=ro) P ops Q c n l ((t0,val y) :: m) (O1 y++F) (R1 y++R)):ve (ro:=ro) P ops Q c n (⟨some t0,.call ⟨.value fo,xs.toArray,ats⟩,ty,ps,af,gd⟩ :: l) m (A++F) R:=
  zr6 (O:=A) (F:=F) hw hd (Ef.weakR hs (Wb hf hx hc h)) k
theorem zjm {i wi k:Nat} {L:Array Bool} {A:As} {t0:Tmp} {fo:Operand} {xs:List Operand} {ats:Array TypeId} {f:Nat} {first cap vs:List Value} {js:List Nat} {Y:Type} {φ:Y→Prop} {val:Y→Value} {A':Y→As} {R1:Y→List Fa}
    (hlw:(L.setIfInBounds i true).getD wi true=true) (hi:ops[i]? =some ⟨some t0,.call ⟨.value fo,xs.toArray,ats⟩,ty,ps,af,gd⟩) (hw:j3 ops m ⟨some t0,.call ⟨.value fo,xs.toArray,ats⟩,ty,ps,af,gd⟩=some true) (hd:yf (t0+1) n.sz=true) (hf:vz m fo=some (.func (.func f) first.toArray cap.toArray)) (hx:evs m xs vs) (hc:CanEnter P f)
    (h:jI P f (first++vs++cap) [A] R' φ val (fun y=>[A' y]) R1) (hs:q9 js R R')
    (kont:∀y,φ y→vn P ops Q c n wi k (L.setIfInBounds i true) ((t0,val y) :: m) (A' y :: OW) O (R1 y++R)):JN P ops Q c n wi k L i m (A :: OW) O R:=
  zcm hlw hi hw hd (Ef.weakR hs (Wb hf hx hc h)) kont
theorem jP {wi k:Nat} {L:Array Bool} {OW':List As} {js:List Nat} (hm:vQ m' m) (pw:OW.Perm OW') (po:O.Perm O') (hr:q9 js R R') (h:vn P ops Q c n wi k L m' OW' O' R'):vn P ops Q c n wi k L m OW O R:=fun hQ hs hcl a w hw hr' g f s1 s2 ap mm=>
  h hQ hs hcl a w hw hr' g (f.sub hm) (vG.perm pw s1) (vG.perm po s2) ap ⟨vG.perm (List.Perm.append pw po) mm.sep,hr.holds mm.holds,mm.apart,mm.hasH,mm.hasG,mm.le,mm.newG,mm.newH,mm.kept⟩
theorem zZ {s e:TypeId} {x ix:Operand} {b o k cap sz j:Nat} {kk:IntKind} {z:Int} (hu:P.underlying s=some (.slice e)) (ht:(P.info? e).map (·.size)=some sz) (h1:vz m x=some (.slice (some ⟨b,o,none⟩) k cap)) (h2:vz m ix=some (.int kk z)) (hz:z=(j:Int)) (hj:j<k):
    PV P n ⟨d,.indexAddr s x ix,ty,ps,af,gd⟩ m (ZZ (some ⟨b,o,none⟩) (j*sz)):=fun a w f=>by
  subst hz
  have hrun:=Z8 (P:=P) (a:=⟨b,o,none⟩) (cap:=cap) (kk:=kk) (w:=w) hu ht hj
  simp only [execOp,f.ev h1,f.ev h2,Sem.run_bind,hrun,Result.andThen_ok,Sem.run_pure,Addr.add_lit,ZZ,yT]
theorem zl5 {e:Exit} (T:TypeId) (r:Rp α) (k:jh c n Q e m (rowA T r none 0 [] :: O) R):jh c n Q e m O R:=fun a w f mm=>by
  refine k a w f ?_
  obtain ⟨h,g,mm⟩:=mm
  exact ⟨h,g,⟨Hp.emp,h,Hp.emp_apart h,rfl,.inl ⟨rfl,rfl,rfl,rfl⟩,mm.sep⟩,mm.holds,mm.apart,mm.hasH,mm.hasG,mm.le,mm.newG,mm.newH,mm.kept⟩
theorem zrd {x:Code} {r:Rp α} {p:Option Addr} {cap:Nat} {xs:List α} (i:Nat) (hi:R[i]? =some (zI r p cap xs)) (k:(p=none→xs=[])→vm (ro:=ro) P Q c n x m O R):vm (ro:=ro) P Q c n x m O R:=
  zhp (fun g h e=>by
    have s:Sl r g p cap xs:=Holds.get i hi h
    have h1:=s.1;have h2:=s.2.2.1 e
    exact yJ Oo) k
theorem zpn {wi k:Nat} {L L':Array Bool} {OW':List As} {js:List Nat} (hL:L=L') (hm:vQ m' m) (pw:OW.Perm OW') (po:O.Perm O') (hr:q9 js R R') (h:vn P ops Q c n wi k L' m' OW' O' R'):vn P ops Q c n wi k L m OW O R:=by
  subst hL;exact jP hm pw po hr h
theorem qn {wi k:Nat} {L L':Array Bool} {OW':List As} {js:List Nat} (h:vn P ops Q c n wi k L' m' OW' O' R') (hL:L=L') (hm:vQ m' m) (pw:OW.Perm OW') (po:O.Perm O') (hr:q9 js R R'):vn P ops Q c n wi k L m OW O R:=zpn hL hm pw po hr h
theorem q6 {X:Type} {wi k k':Nat} {L L':Array Bool} (S:X→Fm×List As×List As×List Fa) (h:∀x,vn P ops Q c n wi k' L' (S x).1 (S x).2.1 (S x).2.2.1 (S x).2.2.2)
    (kont:(∀x,vn P ops Q c n wi k' L' (S x).1 (S x).2.1 (S x).2.2.1 (S x).2.2.2)→vn P ops Q c n wi k L m OW O R):vn P ops Q c n wi k L m OW O R:=kont h
end
section
variable {κ ν : Type} [DecidableEq κ]
variable {P : Program} {Q : Exit → Act → World → Prop} {c : Cx} {n : Sz} {ro : Option Nat} {ops : Array Oper} {l : List Oper} {fm : Fm} {O : List As} {R : List Fa} {d : Option Tmp} {ty k e t : TypeId} {ps : String} {af : Array Edge} {gd : Option (Nat × Bool)}
  {encK:κ→Value} {encV:ν→Value} {ok:κ→Prop} {m vis:List (κ×ν)} {b it:Nat}
end
end Sp
namespace Sp
open Go
section
variable {P : Program} {Q : Exit → Act → World → Prop} {c : Cx} {n : Sz} {ro : Option Nat} {ops : Array Oper} {l : List Oper} {m m' : Fm} {O O' OW : List As} {R R' : List Fa}
theorem zhz {x:Code} {X:Type} {φ:X→Prop} {O1:X→List As} {R1:X→List Fa} (h:∀w,vR c w O R→∃y,φ y∧vR c w (O1 y) (R1 y)) (k:∀y,φ y→vm (ro:=ro) P Q c n x m (O1 y) (R1 y)):vm (ro:=ro) P Q c n x m O R:=fun a w f mm=>by
  obtain ⟨y,hy,m'⟩:=h w mm
  exact k y hy a w f m'
end
abbrev Tri:=Option Addr×Nat×Nat
section
variable {κ : Type} [DecidableEq κ] {α : Type}
def Raw:List (κ×Tri)→List (κ×List α)→Prop
  |[],[]=>True
  |q :: raw,x :: M=>q.1=x.1∧q.2.2.1=x.2.length∧Raw raw M
  |_,_=>False
variable {P : Program} {Q : Exit → Act → World → Prop} {c : Cx} {n : Sz} {ro : Option Nat} {ops : Array Oper} {l : List Oper} {fm : Fm} {O : List As} {R : List Fa} {T : TypeId} {r : Rp α} {b : Nat} {encK : κ → Value} {ok : κ → Prop} {M : List (κ × List α)} {raw : List (κ × Tri)}
theorem Raw.length:∀{raw:List (κ×Tri)} {M:List (κ×List α)},Raw raw M→raw.length=M.length
  |[],[],_=>rfl
  |q :: raw,x :: M,⟨_,_,h3⟩=>by simp [Raw.length h3]
end
section
variable {P : Program} {Q : Exit → Act → World → Prop} {c : Cx} {n : Sz} {ro : Option Nat} {ops : Array Oper} {l : List Oper} {m : Fm} {O : List As} {R : List Fa}
variable {d : Option Tmp} {ty : TypeId} {ps : String} {af : Array Edge} {gd : Option (Nat × Bool)} {α : Type}
theorem Vh {t e:TypeId} {x:Operand} {r:Rp α} {p:Option Addr} {k cap:Nat} {xs:List α} (j:Nat) (hj:R[j]? =some (zI r p cap xs)) (hu:P.underlying t=some (.slice e)) (hI:Inf P e 1 24 (.slice none 0 0)) (h1:vz m x=some (.slice p k cap)) (hk:xs.length=k):
    Ef P n ⟨d,.buildSlice t 1 #[(0,x)],ty,ps,af,gd⟩ m [] R (Y:=Nat) (fun _=>True) (fun b=> .slice (some ⟨b,0,none⟩) 1 1) (fun b=>[rowA e (rS r) (some ⟨b,0,none⟩) 1 [xs]]) (fun _=>[]):=by
  subst hk
  have hp:evp m [(0,x)] [(0,.slice p xs.length cap)]:=⟨rfl,h1,trivial⟩
  refine JE (r:=rS r) (z:= .slice none 0 0) (vs:=[(0,.slice p xs.length cap)]) (xs:=[xs]) (out:=[.slice p xs.length cap]) hu hI rfl (show 1*1≤16777216 by decide) (show 0<1*1 by decide) (show 1≤16777216 by decide) hp ?_ rfl rfl (fun g hr=> ?_)
  · refine ⟨0, 1, [.slice p xs.length cap], [.slice p xs.length cap], rfl, rfl, rfl, ?_, rfl⟩
    have:(madeCells (Value.slice none 0 0).cells (1*(rS r).sz)).toList=[Value.slice none 0 0]:=by show (madeCells (Value.slice none 0 0).cells (1*1)).toList=_;simp [madeCells,Value.cells]
    rw [this]
    exact Wu.take .nil
  · intro i x0 hx
    cases i with
    |zero=>simp at hx;subst hx;exact ⟨(p,cap),⟨rfl,fun j v e=>by have e':[Value.slice p xs.length cap][j]? =some v:=e;simpa using e'⟩,Holds.get j hj hr⟩
    |succ i=>simp at hx
end
end Sp
namespace Sp
open Go Go.RowKit Go.ChangeShapes Go.WideShapes
def whole (W:World):Hp:=fun b=>W.heap[b]?
theorem zkG (W:World):Has W (whole W):=fun b o h=>h
def JP {α:Type} (P:Program) (t:TypeId) (r:Rp α):Prop:=
  ∀{H:Type} (enc:TypeId×Value→H) (W:World) (base:Nat) (sp:Nat→Bool) (held:Bool) (n:Nat) (cs:List Value) (x:DataW H×List MemPlace),DataW.trod enc P W base sp held n t cs=some x→∃y γ,cs=r.enc y γ∧r.ok (whole W) y γ
theorem zkH {q:IntKind} {z:Int} (h:(Lit.int q z).wf=true):Vb q z:=by
  simp only [Lit.wf,Vb] at *;simpa using h
section
variable {P : Program} {t e : TypeId} {α β : Type} {r : Rp α} {s : Rp β}
theorem Zg {k:IntKind} (hu:P.underlying t=some (.int k)):JP P t (rI k):=fun enc W base sp held n cs x h=>by
  obtain ⟨z,rfl,_,hw⟩:=DataW.trod_int hu h
  exact ⟨z,(),rfl,zkH hw⟩
theorem add_block (a:Addr) (k:Nat):(a.add k).block=a.block:=by unfold Addr.add;split <;> rfl
theorem zjn (a:Addr) (k:Nat):(a.add k).off=a.off+k:=by unfold Addr.add;split <;> simp_all
theorem zl6 {a:Addr} (k:Nat) (h:a.spot=none):(a.add k).spot=none:=by unfold Addr.add;split <;> simp_all
theorem add_zero' (a:Addr):a.add 0=a:=by simp [Addr.add]
theorem zbr {W:World} {base:Nat} {a:Addr} {k:Nat} {cs:List Value} (h:W.cells? base a k=some cs) (hk:0<k):a.spot=none∧AtP (whole W) a.block a.off cs:=by
  obtain ⟨_,hl,hc⟩:=World.cells?_some h
  have h0:=hc 0 hk
  have hne:cs[0]? =some (cs[0]'Oo):=yh Oo
  rw [hne,add_zero'] at h0
  unfold World.cell? at h0
  cases hb:W.heap[a.block]? with
  |none=>rw [hb] at h0;simp at h0
  |some o=>
    rw [hb] at h0
    cases o with
    |cells c T fz=>
      simp only at h0
      have hsp:a.spot=none:=by
        cases hs:a.spot with
        |none=>rfl
        |some q=>simp [hs] at h0
      refine ⟨hsp,c,T,fz,hb,fun j v hv=> ?_⟩
      have hj:j<k:=by rw [← hl];exact (yb.1 hv).1
      have:=hc j hj
      rw [hv] at this
      unfold World.cell? at this
      rw [add_block,hb] at this
      simpa [zl6 j hsp,zjn] using this
    |_=>simp at h0
theorem zfP (hu:P.underlying t=some (.slice e)) (hc:P.cellsOf e=r.sz) (hpos:0<r.sz) (h:JP P e r):JP P t (rS r):=fun enc W base sp held n cs x hx=>by
  rcases Go.Deep.open_slice hu hx with ⟨rfl,_⟩|⟨a,len,cap,m,n',D,Pl,rfl,hb,hl,hm,hmm,_,hall⟩
  · exact ⟨[],(none,0),rfl,Sl.nil r _⟩
  · have hle : len ≤ m := by rw [hmm]; split <;> omega
    have each:∀i,i<len→∃y γ,a.spot=none∧AtP (whole W) a.block (a.off+i*r.sz) (r.enc y γ)∧r.ok (whole W) y γ:=fun i hi=>by
      obtain ⟨cs',h1,h2⟩:=hall i Oo
      obtain ⟨cs0,h10,_⟩:=hall 0 Oo
      rw [hc] at h1 h10
      obtain ⟨y,γ,e1,e2⟩:=h enc W base sp held n' cs' _ h2
      obtain ⟨h30,_⟩:=zbr h10 hpos
      rw [Nat.zero_mul,add_zero'] at h30
      obtain ⟨_,h4⟩:=zbr h1 hpos
      refine ⟨y,γ,h30,?_,e2⟩
      rw [← e1];rw [add_block,zjn] at h4;exact h4
    obtain ⟨L,hL,hLe⟩:∃L:List α,L.length=len∧∀i y,L[i]? =some y→∃γ,a.spot=none∧AtP (whole W) a.block (a.off+i*r.sz) (r.enc y γ)∧r.ok (whole W) y γ:=by
      clear hall hle hl hx hmm
      rename_i hxx
      clear hxx
      induction len with
      |zero=>exact ⟨[],rfl,fun i y h=>by simp at h⟩
      |succ k ih=>
        obtain ⟨L,h1,h2⟩:=ih (fun i hi=>each i Oo)
        obtain ⟨y,γ,e1⟩:=each k Oo
        refine ⟨L++[y],by simp [h1],fun i z hz=> ?_⟩
        rw [ye] at hz
        split at hz
        · exact h2 i z hz
        · rename_i hlt
          have hik:i=k:=by
            have:=(yb.1 hz).1
            simp at this;omega
          subst hik
          rw [h1,Nat.sub_self] at hz
          simp at hz;subst hz
          exact ⟨γ,e1⟩
    subst hL
    refine ⟨L,(some a,cap),rfl,hl,hm,(fun e=>by cases e),fun i y hy=> ?_⟩
    obtain ⟨γ,h1,h2,h3⟩:=hLe i y hy
    refine ⟨a.block,a.off,γ,?_,h2,h3⟩
    obtain ⟨b,o,sp'⟩:=a
    simp only at h1;subst h1;rfl
def zeo (P:Program) (ps:List (TypeId×Nat)) (off:Nat) (r:Rp α):Prop:=
  ∀{H:Type} (enc:TypeId×Value→H) (W:World) (base:Nat) (sp:Nat→Bool) (held:Bool) (n:Nat) (cs:List Value),(∀q∈ps,∃x,DataW.trod enc P W base sp held n q.1 ((cs.drop q.2).take (P.cellsOf q.1))=some x)→∃y γ,(cs.drop off).take r.sz=r.enc y γ∧r.ok (whole W) y γ
theorem V8 {off:Nat} (hc:P.cellsOf t=r.sz) (h:JP P t r):zeo P [(t,off)] off r:=fun enc W base sp held n cs hp=>by
  obtain ⟨x,hx⟩:=hp (t,off) (by simp)
  simp only [hc] at hx
  exact h enc W base sp held n _ x hx
theorem j2 {off:Nat} {ps:List (TypeId×Nat)} (hc:P.cellsOf t=r.sz) (h:JP P t r) (k:zeo P ps (off+r.sz) s):zeo P ((t,off) :: ps) off (rP r s):=fun enc W base sp held n cs hp=>by
  obtain ⟨x,hx⟩:=hp (t,off) (by simp)
  simp only [hc] at hx
  obtain ⟨y,γ,e1,o1⟩:=h enc W base sp held n _ x hx
  obtain ⟨z,δ,e2,o2⟩:=k enc W base sp held n cs (fun q hq=>hp q (List.mem_cons_of_mem _ hq))
  refine ⟨(y,z),(γ,δ),?_,o1,o2⟩
  show (cs.drop off).take (r.sz+s.sz)=r.enc y γ++s.enc z δ
  rw [← e1,←e2,List.take_add,List.drop_drop]
theorem QS {fs:List Field} (hu:P.underlying t=some (.struct fs.toArray)) (hc:P.cellsOf t=r.sz) {ps:List (TypeId×Nat)} (hps:fs.map (fun f=>(f.type,f.offset))=ps) (h:zeo P ps 0 r):JP P t r:=fun enc W base sp held n cs x hx=>by
  obtain ⟨xs,n',_,_,hl,hxl,hf⟩:=DataW.trod_struct hu hx
  have:=h enc W base sp held n' cs (fun q hq=>by
    rw [← hps] at hq
    obtain ⟨f,hfm,rfl⟩:=List.mem_map.1 hq
    obtain ⟨i,hi,rfl⟩:=List.getElem_of_mem hfm
    have h2:=hf i fs[i] (by simp)
    have hi':i<xs.length:=by rw [hxl];simpa using hi
    exact ⟨xs[i],by rw [h2,yh hi']⟩)
  rw [List.drop_zero,yg (by rw [hl,hc];exact yz _)] at this
  exact this
theorem J4 {r':Rp β} (h:JP P t r) (hc:∀g y γ,r.ok g y γ→∃z δ,r.enc y γ=r'.enc z δ∧r'.ok g z δ):JP P t r':=fun enc W base sp held n cs x hx=>by
  obtain ⟨y,γ,e1,o1⟩:=h enc W base sp held n cs x hx
  obtain ⟨z,δ,e2,o2⟩:=hc _ y γ o1
  exact ⟨z,δ,e1.trans e2,o2⟩
theorem zre {k:IntKind}:∀g y γ,(rP (rI k) (rP (rI k) (rI k))).ok g y γ→∃z δ,(rP (rI k) (rP (rI k) (rI k))).enc y γ=(rI3 k).enc z δ∧(rI3 k).ok g z δ:=fun g y γ h=>⟨y,(),rfl,h.1,h.2.1,h.2.2⟩
theorem ztI {k:IntKind}:∀g y γ,(rP (rI k) (rI k)).ok g y γ→∃z δ,(rP (rI k) (rI k)).enc y γ=(rI2 k).enc z δ∧(rI2 k).ok g z δ:=fun g y γ h=>⟨y,(),rfl,h.1,h.2⟩
theorem zdC {H:Type} {enc:TypeId×Value→H} {W:World} {base:Nat} {sp:Nat→Bool} {held:Bool} {v:Value} {d:DataW H} {p:List MemPlace} {rr:Reach} {b0:Nat} (h:JP P t r) (hag:∃fs,P.underlying t=some (.struct fs)) (hok:Value.okWide P W rr b0 t v) (ht:DataW.Trod enc P W base sp held t v d p):∃y γ,v= .agg (r.enc y γ).toArray∧r.ok (whole W) y γ:=by
  obtain ⟨fs,hu⟩:=hag
  obtain ⟨cs,rfl,_⟩:=okWide_struct hu hok
  obtain ⟨n,hn⟩:=ht
  obtain ⟨y,γ,e,o⟩:=h enc W base sp held n _ _ hn
  refine ⟨y,γ,?_,o⟩
  have e':cs.toList=r.enc y γ:=e
  rw [← e',yK]
theorem zkI {H:Type} {enc:TypeId×Value→H} {W:World} {base:Nat} {sp:Nat→Bool} {held:Bool} {v:Value} {d:DataW H} {p:List MemPlace} (h:JP P t r) (hv:v.cells= #[v]) (h1:r.sz=1) (ht:DataW.Trod enc P W base sp held t v d p):∃y γ,[v]=r.enc y γ∧r.ok (whole W) y γ:=by
  obtain ⟨n,hn⟩:=ht
  obtain ⟨y,γ,e,o⟩:=h enc W base sp held n _ _ hn
  refine ⟨y,γ,?_,o⟩
  rw [← e,hv]
theorem zl7 {H:Type} {enc:TypeId×Value→H} {W:World} {base:Nat} {sp:Nat→Bool} {held:Bool} {v:Value} {d:DataW H} {p:List MemPlace} {rr:Reach} {b0:Nat} (h:JP P t r) (h1:r.sz=1) (hu:P.underlying t=some (.slice e)) (hok:Value.okWide P W rr b0 t v) (ht:DataW.Trod enc P W base sp held t v d p):∃y γ,[v]=r.enc y γ∧r.ok (whole W) y γ:=by
  obtain ⟨a,b,c,rfl⟩:∃a b c,v= .slice a b c:=by
    simp only [Value.okWide,hu] at hok
    cases v <;> simp_all [Cell.okWide,Cell.ok]
  exact zkI h rfl h1 ht
end
theorem Wx {H:Type} {enc:TypeId×Value→H} {P:Program} (hl:laidOutB P=true) {W W':World} (hb:Below W.heap.size W W') {sp:Nat→Bool}:∀{ts:List TypeId} {vs:List Value} {ds:List (DataW H)} {ps:List MemPlace},
    (ts.all fun t=>P.readableRec t&&decide (t<P.types.size))=true→DataW.TrodAll enc P W 0 (fun _=>true) true ts vs ds ps→(∀p∈ps,p.block<W.heap.size)→(∀p∈ps,sp p.block=true)→DataW.TrodAll enc P W' 0 sp true ts vs ds ps
  |[],[],[],ps,_,h,_,_=>h
  |t :: ts,v :: vs,d :: ds,ps,hr,⟨p,q,h1,h2,e⟩,hlt,hsp=>by
    subst e
    simp only [List.all_cons,Bool.and_eq_true,decide_eq_true_eq] at hr
    refine ⟨p,q,WideElems.Trod_stays hl hr.1.1 hr.1.2 h1 (fun x hx=>hb.same (hlt x (List.mem_append_left _ hx))) (fun x hx=>hsp x (List.mem_append_left _ hx)),?_,rfl⟩
    exact Wx hl hb hr.2 h2 (fun x hx=>hlt x (List.mem_append_right _ hx)) (fun x hx=>hsp x (List.mem_append_right _ hx))
theorem zl8 {H:Type} {enc:TypeId×Value→H} {P:Program} {f:Func} {s:ChangeSpec} {apart fresh handsOn again:Bool} {W W':World} {args:Array Value} {ds gs:List (DataW H)} {before:List MemPlace} {tb:TypeId}
    (hl:laidOutB P=true) (hr:(f.params.toList.all fun t=>P.readableRec t&&decide (t<P.types.size))=true) (hvars:s.vars=[]) (hres:f.resultTypes= #[tb]) (htb:P.underlying tb=some .bool)
    (hW:DataW.Whole enc P f.params.toList s.vars apart W args.toList ds gs before) (hfn:(s.fn H (ds++gs)).results=[.lit (.bool true)]∧(s.fn H (ds++gs)).args=ds∧(s.fn H (ds++gs)).vars=[]) (hb:Below W.heap.size W W'):
    s.post enc P f apart fresh handsOn again W args (.bool true) W':=by
  have hlt:∀p∈before,p.block<W.heap.size:=fun p hp=>hW.lt p hp
  have hold:∀p∈before,(fun b=>decide (b<W.heap.size)) p.block=true:=fun p hp=>by simpa using hlt p hp
  have hWW:=hW
  obtain ⟨pp,q,hA,hV,hbe,hz,hn⟩:=hWW
  rw [hvars] at hV
  obtain ⟨rfl,rfl⟩:=trodVars_none hV
  rw [List.append_nil] at hbe
  subst hbe
  have hargs:∀sp:Nat→Bool,(∀p∈before,sp p.block=true)→DataW.TrodAll enc P W' 0 sp true f.params.toList args.toList (s.fn H (ds++[])).args before:=fun sp hsp=>by
    rw [hfn.2.1];exact Wx hl hb hr hA hlt hsp
  have hvv:∀sp:Nat→Bool,DataW.TrodVars enc P W' sp s.vars (s.fn H (ds++[])).vars []:=fun sp=>by rw [hvars,hfn.2.2];exact rfl
  have hrs:∀(b:Nat) (sp:Nat→Bool) (hd:Bool),DataW.TrodAll enc P W' b sp hd f.resultTypes.toList ((Value.bool true).resultList f.resultTypes.size) (s.fn H (ds++[])).results []:=fun b sp hd=>by
    rw [hfn.1,hres];exact trodAll_mk1 (shut_bool htb _)
  refine ⟨ds,[],before,[],before,[],hW,hrs _ _ _,hargs _ hold,hvv _,World.keptBut_mono (fun p hp=>⟨hp,Or.inr (by simpa using hp)⟩) (hb.frame (· ∈before)),fun _=> ?_⟩
  refine ⟨ok_one hres rfl (okWide_bool_mk htb _),_,_,([]++before)++[],⟨[]++before,[],trodAll_append (hargs _ (fun _ _=>rfl)) (hrs _ _ _),hvv _,rfl,?_,?_⟩,?_⟩
  · intro b off hp
    have hin:MemPlace.cell b off∈before:=by simpa using hp
    rw [hb.frozen (hlt _ hin)]
    exact hz b off hin
  · intro ha;simpa using hn ha
  · intro p hp _;simpa using hp
theorem zkJ {H:Type} {enc:TypeId×Value→H} {P:Program} {f:Nat} {fn:Func} {s:ChangeSpec} {apart fresh handsOn again:Bool} {W:World} {args:List Value} {ds gs:List (DataW H)} {before:List MemPlace} {tb:TypeId} {R:List Fa}
    (hl:laidOutB P=true) (hr:(fn.params.toList.all fun t=>P.readableRec t&&decide (t<P.types.size))=true) (hvars:s.vars=[]) (hres:fn.resultTypes= #[tb]) (htb:P.underlying tb=some .bool)
    (hW:DataW.Whole enc P fn.params.toList s.vars apart W args.toArray.toList ds gs before) (hfn:(s.fn H (ds++gs)).results=[.lit (.bool true)]∧(s.fn H (ds++gs)).args=ds∧(s.fn H (ds++gs)).vars=[])
    (hR:Holds (whole W) R) (hc:jI P f args [] R (Y:=Unit) (fun _=>True) (fun _=> .bool true) (fun _=>[]) (fun _=>[])):
    Calls P f args.toArray W fun e W'=>∃v,e= .returned v∧s.post enc P fn apart fresh handsOn again W args.toArray v W':=by
  refine (hc W Hp.emp (whole W) rfl hR (Hp.emp_apart _) (fun _ _ e=>by cases e) (zkG W)).mono fun e W' ⟨_,he,_,hM⟩=>⟨_,he,?_⟩
  obtain ⟨h,g,m⟩:=hM
  exact zl8 hl hr hvars hres htb hW hfn ⟨m.kept.os,m.kept.tape,m.kept.output,m.kept.size,fun k hk=>m.kept.block k hk rfl⟩
end Sp
namespace Sp
open Go
theorem v8:Ty ya 3 1 false:=⟨Ok,Ok⟩
theorem je:(ya.info? 3).map (·.size)=some 1:=Ok
theorem Ky:Inf ya 3 1 8 (yW yX 0):=Inf.mk' Ok
theorem zr3:jY ya 3 (yW yX 0):=by unfold jY;kernel_rfl
theorem J5:Ty ya 4 1 false:=⟨Ok,Ok⟩
theorem Jn:(ya.info? 4).map (·.size)=some 1:=Ok
theorem jQ:Ty ya 28 1 false:=⟨Ok,Ok⟩
theorem Zu:(ya.info? 28).map (·.size)=some 1:=Ok
theorem zr28:jY ya 28 (.slice none 0 0):=by unfold jY;kernel_rfl
theorem z4:Ty ya 30 2 true:=⟨Ok,Ok⟩
theorem z8:(ya.info? 30).map (·.size)=some 2:=Ok
theorem zl9:Inf ya 30 2 32 (.agg #[.bool false,.slice none 0 0]):=Inf.mk' Ok
theorem jo:jY ya 30 (.agg #[.bool false,.slice none 0 0]):=by unfold jY;kernel_rfl
theorem qp:Ty ya 32 4 true:=⟨Ok,Ok⟩
theorem qk:(ya.info? 32).map (·.size)=some 4:=Ok
theorem jf:Inf ya 32 4 64 (.agg #[.bool false,.slice none 0 0,.bool false,.slice none 0 0]):=Inf.mk' Ok
theorem vh:jY ya 32 (.agg #[.bool false,.slice none 0 0,.bool false,.slice none 0 0]):=by unfold jY;kernel_rfl
theorem zhA:Ty ya 46 1 false:=⟨Ok,Ok⟩
theorem zhB:(ya.info? 46).map (·.size)=some 1:=Ok
theorem zma:Inf ya 46 1 24 (.slice none 0 0):=Inf.mk' Ok
theorem Qx:Ty ya 60 1 false:=⟨Ok,Ok⟩
theorem zdu:(ya.info? 60).map (·.size)=some 1:=Ok
theorem zrf:Inf ya 60 1 24 (.slice none 0 0):=Inf.mk' Ok
theorem ztJ:jY ya 60 (.slice none 0 0):=by unfold jY;kernel_rfl
theorem vF:Ty ya 62 1 false:=⟨Ok,Ok⟩
theorem vC:(ya.info? 62).map (·.size)=some 1:=Ok
theorem Z2:Inf ya 62 1 24 (.slice none 0 0):=Inf.mk' Ok
theorem ztK:jY ya 62 (.slice none 0 0):=by unfold jY;kernel_rfl
theorem ty64:Ty ya 64 1 false:=⟨Ok,Ok⟩
theorem sz64:(ya.info? 64).map (·.size)=some 1:=Ok
theorem zmb:Inf ya 64 1 24 (.slice none 0 0):=Inf.mk' Ok
theorem ztL:Ty ya 74 1 false:=⟨Ok,Ok⟩
theorem sz74:(ya.info? 74).map (·.size)=some 1:=Ok
theorem zr74:jY ya 74 (.slice none 0 0):=by unfold jY;kernel_rfl
theorem zfQ:Ty ya 78 3 true:=⟨Ok,Ok⟩
theorem VS:(ya.info? 78).map (·.size)=some 3:=Ok
theorem zr78:jY ya 78 (.agg #[yW yX 0,yW yX 0,yW yX 0]):=by unfold jY;kernel_rfl
theorem zae:Ty ya 80 4 true:=⟨Ok,Ok⟩
theorem zep:(ya.info? 80).map (·.size)=some 4:=Ok
theorem zkK:jY ya 80 (.agg #[yW yX 0,yW yX 0,yW yX 0,yW yX 0]):=by unfold jY;kernel_rfl
theorem zmc:Ty ya 82 2 true:=⟨Ok,Ok⟩
theorem Qy:(ya.info? 82).map (·.size)=some 2:=Ok
theorem zpo:jY ya 82 (.agg #[yW yX 0,yW yX 0]):=by unfold jY;kernel_rfl
theorem JQ:Ty ya 84 10 true:=⟨Ok,Ok⟩
theorem zfR:(ya.info? 84).map (·.size)=some 10:=Ok
theorem zrg:Inf ya 84 10 80 (.agg #[yW yX 0,yW yX 0,yW yX 0,yW yX 0,yW yX 0,yW yX 0,yW yX 0,yW yX 0,yW yX 0,yW yX 0]):=Inf.mk' Ok
theorem zkL:jY ya 84 (.agg #[yW yX 0,yW yX 0,yW yX 0,yW yX 0,yW yX 0,yW yX 0,yW yX 0,yW yX 0,yW yX 0,yW yX 0]):=by unfold jY;kernel_rfl
theorem ztM:Ty ya 96 8 true:=⟨Ok,Ok⟩
theorem zkM:(ya.info? 96).map (·.size)=some 8:=Ok
theorem zrh:Inf ya 96 8 128 (.agg #[.bool false,.slice none 0 0,.bool false,.slice none 0 0,.bool false,.slice none 0 0,.bool false,.slice none 0 0]):=Inf.mk' Ok
theorem zsf:jY ya 96 (.agg #[.bool false,.slice none 0 0,.bool false,.slice none 0 0,.bool false,.slice none 0 0,.bool false,.slice none 0 0]):=by unfold jY;kernel_rfl
theorem ty98:Ty ya 98 10 true:=⟨Ok,Ok⟩
theorem sz98:(ya.info? 98).map (·.size)=some 10:=Ok
theorem zjo:Inf ya 98 10 176 (.agg #[.slice none 0 0,.slice none 0 0,.bool false,.slice none 0 0,.bool false,.slice none 0 0,.bool false,.slice none 0 0,.bool false,.slice none 0 0]):=Inf.mk' Ok
theorem ztN:jY ya 98 (.agg #[.slice none 0 0,.slice none 0 0,.bool false,.slice none 0 0,.bool false,.slice none 0 0,.bool false,.slice none 0 0,.bool false,.slice none 0 0]):=by unfold jY;kernel_rfl
theorem zaf:Ty ya 106 1 false:=⟨Ok,Ok⟩
theorem vJ:Ty ya 133 1 false:=⟨Ok,Ok⟩
theorem qM:(ya.info? 133).map (·.size)=some 1:=Ok
theorem vB:Inf ya 133 1 4 (.int .u32 0):=Inf.mk' Ok
theorem zri:Ty ya 134 1 false:=⟨Ok,Ok⟩
theorem ztO:(ya.info? 134).map (·.size)=some 1:=Ok
theorem ztP:jY ya 134 (.slice none 0 0):=by unfold jY;kernel_rfl
theorem zmd:Ty ya 137 1 false:=⟨Ok,Ok⟩
theorem ztQ:(ya.info? 137).map (·.size)=some 1:=Ok
theorem ztR:jY ya 137 (.nilFunc):=by unfold jY;kernel_rfl
theorem zfS:Ty ya 141 18 true:=⟨Ok,Ok⟩
theorem ztS:(ya.info? 141).map (·.size)=some 18:=Ok
theorem zrj:jY ya 141 (.agg #[.bool false,.slice none 0 0,.bool false,.slice none 0 0,.bool false,.slice none 0 0,.bool false,.slice none 0 0,.bool false,.slice none 0 0,.bool false,.slice none 0 0,.bool false,.slice none 0 0,.bool false,.slice none 0 0,.bool false,.slice none 0 0]):=by unfold jY;kernel_rfl
theorem zrk:Ty ya 143 1 false:=⟨Ok,Ok⟩
theorem ztT:(ya.info? 143).map (·.size)=some 1:=Ok
theorem ztU:jY ya 143 (.nilFunc):=by unfold jY;kernel_rfl
theorem zjp:Ty ya 148 4 true:=⟨Ok,Ok⟩
theorem zcn:(ya.info? 148).map (·.size)=some 4:=Ok
theorem zeq:Inf ya 148 4 32 (.agg #[yW yX 0,yW yX 0,yW yX 0,yW yX 0]):=Inf.mk' Ok
theorem zjq:jY ya 148 (.agg #[yW yX 0,yW yX 0,yW yX 0,yW yX 0]):=by unfold jY;kernel_rfl
theorem zjr:Ty ya 182 1 false:=⟨Ok,Ok⟩
theorem zjs:(ya.info? 182).map (·.size)=some 1:=Ok
theorem zrl:jY ya 182 (.int .u64 0):=by unfold jY;kernel_rfl
theorem zbs:Ty ya 202 6 true:=⟨Ok,Ok⟩
theorem zjt:(ya.info? 202).map (·.size)=some 6:=Ok
theorem zbt:jY ya 202 (.agg #[.bool false,.slice none 0 0,.bool false,.slice none 0 0,.bool false,.slice none 0 0]):=by unfold jY;kernel_rfl
theorem zme:Ty ya 210 3 true:=⟨Ok,Ok⟩
theorem zmf:(ya.info? 210).map (·.size)=some 3:=Ok
theorem zdD:jY ya 210 (.agg #[yW yX 0,yW yX 0,yW yX 0]):=by unfold jY;kernel_rfl
theorem zco:Ty ya 213 1 false:=⟨Ok,Ok⟩
theorem ztV:(ya.info? 213).map (·.size)=some 1:=Ok
theorem ztW:jY ya 213 (.nilFunc):=by unfold jY;kernel_rfl
theorem ztX:Ty ya 219 9 true:=⟨Ok,Ok⟩
theorem ztY:(ya.info? 219).map (·.size)=some 9:=Ok
theorem zrm:jY ya 219 (.agg #[yW yX 0,yW yX 0,yW yX 0,yW yX 0,yW yX 0,yW yX 0,yW yX 0,yW yX 0,yW yX 0]):=by unfold jY;kernel_rfl
theorem ztZ:Ty ya 250 4 true:=⟨Ok,Ok⟩
theorem zt0:(ya.info? 250).map (·.size)=some 4:=Ok
theorem zrn:jY ya 250 (.agg #[yW yX 0,yW yX 0,yW yX 0,yW yX 0]):=by unfold jY;kernel_rfl
theorem mixed:ya.follows .mixedOrders=true:=Ok
section
variable {P : Program} {Q : Exit → Act → World → Prop} {c : Cx} {n : Sz} {ro : Option Nat} {m : Fm} {O : List As} {R : List Fa} {id : Nat} {lo : List Oper} {ops : Array Oper} {x y : Code}
theorem vg (h:ve (ro:=ro) P lo.toArray (Exit.then (y.wpIn (FR ro) 0 P Q) Q) c n lo m O R):vm (ro:=ro) P Q c n (.seq (.region id lo.toArray false) y) m O R:=qe (zv h)
theorem Vc (h:vm (ro:=ro) P Q c n y m O R):ve (ro:=ro) P ops (Exit.then (y.wpIn (FR ro) 0 P Q) Q) c n [] m O R:=jq (zi h)
theorem ZI (h:vm (ro:=ro) P (Exit.then (y.wpIn (FR ro) 0 P Q) Q) c n x m O R):ve (ro:=ro) P ops (Exit.then ((Code.seq x y).wpIn (FR ro) 0 P Q) Q) c n [] m O R:=Vc (qe h)
theorem Vj (h:ve (ro:=ro) P lo.toArray (Exit.then (y.wpIn (FR ro) 0 P Q) Q) c n lo m O R):ve (ro:=ro) P ops (Exit.then ((Code.seq (.region id lo.toArray false) y).wpIn (FR ro) 0 P Q) Q) c n [] m O R:=ZI (zv h)
theorem Va (h:jh c n Q .ret m O R):ve (ro:=ro) P ops (Exit.then (Code.ret.wpIn (FR ro) 0 P Q) Q) c n [] m O R:=Vc (vv h)
theorem kk6 (h:vm (ro:=ro) P Q c n y m O R):vm (ro:=ro) P (Exit.then (y.wpIn (FR ro) 0 P Q) Q) c n .skip m O R:=qN (zi h)
theorem vY (h:vm (ro:=ro) P (Exit.then (y.wpIn (FR ro) 0 P Q) Q) c n x m O R):vm (ro:=ro) P (Exit.then ((Code.seq x y).wpIn (FR ro) 0 P Q) Q) c n .skip m O R:=kk6 (qe h)
theorem kk8 (h:ve (ro:=ro) P lo.toArray (Exit.then (y.wpIn (FR ro) 0 P Q) Q) c n lo m O R):vm (ro:=ro) P (Exit.then ((Code.seq (.region id lo.toArray false) y).wpIn (FR ro) 0 P Q) Q) c n .skip m O R:=vY (zv h)
theorem qS {x:Operand} {v:Value} (h:vz m x=some v:=by exact rfl):evs m [x] [v]:= .c h .n
theorem q7 {x x2:Operand} {v v2:Value} (h:vz m x=some v:=by exact rfl) (h2:vz m x2=some v2:=by exact rfl):evs m [x,x2] [v,v2]:= .c h (qS h2)
theorem ag3 {x x2 x3:Operand} {v v2 v3:Value} (h:vz m x=some v:=by exact rfl) (h2:vz m x2=some v2:=by exact rfl) (h3:vz m x3=some v3:=by exact rfl):evs m [x,x2,x3] [v,v2,v3]:= .c h (q7 h2 h3)
theorem qX (i:Nat) {r:Fa} (h:R[i]? =some r:=by exact rfl):q9 [i] R [r]:= .c h .n
theorem vj (i i2:Nat) {r r2:Fa} (h:R[i]? =some r:=by exact rfl) (h2:R[i2]? =some r2:=by exact rfl):q9 [i,i2] R [r,r2]:= .c h (qX i2 h2)
theorem sg3 (i i2 i3:Nat) {r r2 r3:Fa} (h:R[i]? =some r:=by exact rfl) (h2:R[i2]? =some r2:=by exact rfl) (h3:R[i3]? =some r3:=by exact rfl):q9 [i,i2,i3] R [r,r2,r3]:= .c h (vj i2 i3 h2 h3)
theorem sg4 (i i2 i3 i4:Nat) {r r2 r3 r4:Fa} (h:R[i]? =some r:=by exact rfl) (h2:R[i2]? =some r2:=by exact rfl) (h3:R[i3]? =some r3:=by exact rfl) (h4:R[i4]? =some r4:=by exact rfl):q9 [i,i2,i3,i4] R [r,r2,r3,r4]:= .c h (sg3 i2 i3 i4 h2 h3 h4)
end
def ceB (P : Program) (f : Nat) : Bool := match P.funcs[f]? with | some fn => fn.body.isSome && (fn.name == "runtime.NumGoroutine") == false | none => false
theorem zP {P:Program} {f:Nat} (h:ceB P f=true:=by kernel_rfl):CanEnter P f:=by
  unfold ceB at h
  cases e:P.funcs[f]? with
  |none=>rw [e] at h;cases h
  |some fn=>
    rw [e] at h;dsimp only at h
    cases eb:fn.body with
    |none=>rw [eb] at h;cases h
    |some code=>exact zlS e eb (by rw [eb] at h;simpa using h)
abbrev Vi (k:Nat):Value:= .int .i64 ((k:Nat):Int)
abbrev Vp (b:Nat):Value:= .pointer (some ⟨b,0,none⟩)
abbrev Sb (b:Nat):Option Addr:=some ⟨b,0,none⟩
abbrev gQ (l:List Rat) (i:Nat):Rat:=l.getD i 0
abbrev CA (f:Nat) (args:List Value) (R:List Fa) (v:Value):Prop:=jI ya f args [] R (Y:=Unit) (fun y=>True) (fun y=>v) (fun y=>[]) (fun y=>[])
abbrev CB (f:Nat) (args:List Value) (R:List Fa) {Y:Type} (val:Y→Value) (R':Y→List Fa):Prop:=jI ya f args [] R (fun y=>True) val (fun y=>[]) R'
abbrev CC (f:Nat) (args:List Value) (R:List Fa) {Y:Type} (φ:Y→Prop) (val:Y→Value) (R':Y→List Fa):Prop:=jI ya f args [] R φ val (fun y=>[]) R'
def KM:List Nat→Fm→Fm→Prop
  |[],_,[]=>True
  |t :: ts,m,(u,v) :: l=>t=u∧lk m t=some v∧KM ts m l
  |_,_,_=>False
theorem KM.n {m:Fm}:KM [] m []:=trivial
theorem KM.c {m l:Fm} {t:Nat} {ts:List Nat} {v:Value} (h:Sp.lk m t=some v) (k:KM ts m l):KM (t :: ts) m ((t,v) :: l):=⟨rfl,h,k⟩
theorem KM.sub {m:Fm}:∀{ts:List Nat} {l:Fm},KM ts m l→vQ l m
  |[],[],_=>trivial
  |_ :: _,(_,_) :: _,⟨e,h,k⟩=>⟨e ▸ h,KM.sub k⟩
theorem zfT {m l':Fm}:∀{l:Fm},vQ l m→vQ l' m→vQ (l++l') m
  |[],_,h=>h
  |(_,_) :: _,⟨a,b⟩,h=>⟨a,zfT b h⟩
theorem zfU {R b:List Fa} {is:List Nat}:∀{js:List Nat} {a:List Fa},q9 js R a→q9 is R b→q9 (js++is) R (a++b)
  |[],[],_,h=>h
  |_ :: _,_ :: _,⟨x,y⟩,h=>⟨x,zfU y h⟩
theorem z5 {P:Program} {Q:Exit→Act→World→Prop} {c:Cx} {n:Sz} {ro:Option Nat} {m m':Fm} {O:List As} {R R':List Fa} {X:Type} (φ:X→Prop) (M:X→Fm) (ts:List Nat) (OO:X→List As) (RR:X→List Fa) (ks:List Nat) (μ:X→Nat) {body:Code} (x:X) (hx:φ x) {is js:List Nat}
    (hm:vQ (M x) m) (ho:V2 is O=some (OO x)) (hsel:q9 js R (RR x))
    (round:∀x,φ x→vm (ro:=ro) P (Exit.then (zlQ c n φ (fun x=>M x++m') OO (fun x=>RR x++R') μ (μ x)) Q) c n body (M x++m') (OO x) (RR x++R'))
    (hk:KM ts m m':=by repeat' first|exact KM.n|exact rfl|apply KM.c) (hr:q9 ks R R':=by repeat' first|exact q9.n|exact rfl|apply q9.c):vm (ro:=ro) P Q c n (.loop body) m O R:=
  Qr φ (fun x=>M x++m') OO (fun x=>RR x++R') μ x hx (zfT hm hk.sub) ho (zfU hsel hr) round
section
variable {c : Cx} {n : Sz} {m m' : Fm} {O OW : List As} {R R' : List Fa} {Q : Exit → Act → World → Prop} {id : Nat} {l : List Oper} {A B : As}
theorem Jo (wi:Nat) (h:vn ya l.toArray Q c n wi l.length (yp l.length false) m [] O R) (hQ:v4 Q:=by repeat (first|exact v4.ret|refine v4.then ?_|refine v4.block ?_)) (hs:Region.noSelect l.toArray=true:=by kernel_rfl):vm (ro:=none) ya Q c n (.region id l.toArray true) m O R:=We (OW:=[]) wi mixed hQ hs h
theorem Vk (wi:Nat) (h:vn ya l.toArray Q c n wi l.length (yp l.length false) m [A] O R) (hQ:v4 Q:=by repeat (first|exact v4.ret|refine v4.then ?_|refine v4.block ?_)) (hs:Region.noSelect l.toArray=true:=by kernel_rfl):vm (ro:=none) ya Q c n (.region id l.toArray true) m (A :: O) R:=We (OW:=[A]) wi mixed hQ hs h
theorem rd2 (wi:Nat) (h:vn ya l.toArray Q c n wi l.length (yp l.length false) m [A,B] O R) (hQ:v4 Q:=by repeat (first|exact v4.ret|refine v4.then ?_|refine v4.block ?_)) (hs:Region.noSelect l.toArray=true:=by kernel_rfl):vm (ro:=none) ya Q c n (.region id l.toArray true) m (A :: B :: O) R:=We (OW:=[A,B]) wi mixed hQ hs h
theorem zuN {P:Program} {ops:Array Oper} {X:Type} {wi k k':Nat} {L L':Array Bool} (S:X→Fm×List As×List As×List Fa) (ts ks:List Nat) (h:∀x,vn P ops Q c n wi k' L' ((S x).1++m') (S x).2.1 (S x).2.2.1 ((S x).2.2.2++R'))
    (kont:(∀x,vn P ops Q c n wi k' L' ((S x).1++m') (S x).2.1 (S x).2.2.1 ((S x).2.2.2++R'))→vn P ops Q c n wi k L m OW O R) (hk:KM ts m m':=by repeat' first|exact KM.n|exact rfl|apply KM.c) (hr:q9 ks R R':=by repeat' first|exact q9.n|exact rfl|apply q9.c):vn P ops Q c n wi k L m OW O R:=kont h
end
theorem w6 {z:Int} (h: -9223372036854775808≤z∧z≤9223372036854775807:=by omega):IntKind.i64.wrap z=z:=Q9 ⟨rfl,h⟩
theorem qj {P:Program} {n:Sz} {m:Fm} {d:Option Tmp} {t t2 ty:TypeId} {ps:String} {af:Array Edge} {gd:Option (Nat×Bool)} {x y:Operand} {i:Nat} (h1:vz m x=some (.int .i64 (i:Int))) (h2:vz m y=some (.int .i64 1)) (h:i+1≤9223372036854775807:=by omega):PV P n ⟨d,.binOp .add t x y t2,ty,ps,af,gd⟩ m (.int .i64 ((i+1:Nat):Int)):=qm h1 h2 (Q9 ⟨Oo,Oo,Oo⟩)
theorem Qj {P:Program} {n:Sz} {m:Fm} {d:Option Tmp} {t t2 ty:TypeId} {ps:String} {af:Array Edge} {gd:Option (Nat×Bool)} {x y:Operand} {i j:Nat} (h1:vz m x=some (.int .i64 (i:Int))) (h2:vz m y=some (.int .i64 (j:Int))) (h:i+j≤9223372036854775807:=by omega):PV P n ⟨d,.binOp .add t x y t2,ty,ps,af,gd⟩ m (.int .i64 ((i+j:Nat):Int)):=qm h1 h2 (Q9 ⟨Oo,Oo,Oo⟩)
def sT (t:Nat):Bool:=yj t 28||(yj t 62||(yj t 60||(yj t 64||(yj t 46||(yj t 106||yj t 87)))))
theorem zt2 {t:Nat} (h:sT t=true):∃e,ya.underlying t=some (.slice e):=by
  simp only [sT,Bool.or_eq_true,Nat.beq_eq] at h
  rcases h with rfl|rfl|rfl|rfl|rfl|rfl|rfl
  exact ⟨_,Tryz.underlying28⟩
  exact ⟨_,Tryz.underlying62⟩
  exact ⟨_,Tryz.underlying60⟩
  exact ⟨_,Tryz.underlying64⟩
  exact ⟨_,Tryz.underlying46⟩
  exact ⟨_,Tryz.underlying106⟩
  exact ⟨_,Tryz.underlying87⟩
def vi2:Option Value→Option Value→Option (Int×Int)
  |some (.int k a),some (.int k' b)=>if k=k' then some (a,b) else none
  |_,_=>none
theorem zsg {x y:Option Value} {a b:Int} (h:vi2 x y=some (a,b)):∃k,x=some (.int k a)∧y=some (.int k b):=by
  unfold vi2 at h
  split at h
  · split at h
    · rename_i e;subst e;cases h;exact ⟨_,rfl,rfl⟩
    · cases h
  · cases h
def pvv (m:Fm):Op→Option Value
  | .move x=>vz m x
  | .assign x=>vz m x
  | .pick x y z=>match vz m x with
    |some (.bool true)=>vz m y
    |some (.bool false)=>vz m z
    |_=>none
  | .extract x i=>match vz m x with
    |some (.tuple ⟨l⟩)=>l[i]?
    |_=>none
  | .call ⟨.builtin .len,⟨[x]⟩,⟨[t]⟩⟩=>match vz m x with
    |some (.slice _ k _)=>match sT t with
      |true=>some (.int .i64 k)
      |false=>none
    |_=>none
  | .binOp .lss _ x y _=>match vi2 (vz m x) (vz m y) with
    |some (a,b)=>some (.bool (decide (a<b)))
    |none=>none
  | .binOp .leq _ x y _=>match vi2 (vz m x) (vz m y) with
    |some (a,b)=>some (.bool (decide (a≤b)))
    |none=>none
  | .binOp .gtr _ x y _=>match vi2 (vz m x) (vz m y) with
    |some (a,b)=>some (.bool (decide (b<a)))
    |none=>none
  | .binOp .geq _ x y _=>match vi2 (vz m x) (vz m y) with
    |some (a,b)=>some (.bool (decide (b≤a)))
    |none=>none
  | .binOp .eql _ x y _=>match vi2 (vz m x) (vz m y) with
    |some (a,b)=>some (.bool (decide (a=b)))
    |none=>none
  | .binOp .neq _ x y _=>match vi2 (vz m x) (vz m y) with
    |some (a,b)=>some (.bool (decide (a≠b)))
    |none=>none
  |_=>none
theorem zsh {n:Sz} {t:Tmp} {ty:TypeId} {ps:String} {af:Array Edge} {gd:Option (Nat×Bool)} {m:Fm} {op:Op} {v:Value} (h:pvv m op=some v):PV ya n ⟨some t,op,ty,ps,af,gd⟩ m v:=by
  unfold pvv at h
  split at h
  · exact qU h
  · exact zT h
  · split at h
    · rename_i e;exact jx e h
    · rename_i e;exact jx e h
    · cases h
  · split at h
    · rename_i e;exact qD e h
    · cases h
  · split at h
    · rename_i e
      split at h
      · rename_i hs;cases h;obtain ⟨_,hu⟩:=zt2 hs;exact vL hu e
      · cases h
    · cases h
  all_goals first|(split at h;rename_i e;cases h;obtain ⟨_,e1,e2⟩:=zsg e;first|exact zhq e1 e2|exact zr8 e1 e2|exact zhr e1 e2|exact zlT e1 e2|exact zce e1 e2|exact zhs e1 e2);cases h|cases h
def Wv (ops:Array Oper) (sz:Nat):Nat→List Oper→Fm→Option (List Oper×Fm)
  |0,l,m=>some (l,m)
  |k+1,⟨some t,op,ty,ps,af,gd⟩ :: l,m=>match yf (t+1) sz with
    |true=>match j3 ops m ⟨some t,op,ty,ps,af,gd⟩ with
      |some true=>match pvv m op with
        |some v=>Wv ops sz k l ((t,v) :: m)
        |none=>none
      |some false=>Wv ops sz k l ((t,undef) :: m)
      |none=>none
    |false=>none
  |_,_,_=>none
abbrev TH (ro:Option Nat) (P:Program) (y:Code) (Q:Exit→Act→World→Prop):=Exit.then (y.wpIn (FR ro) 0 P Q) Q
section
variable {Q : Exit → Act → World → Prop} {c : Cx} {n : Sz} {ro : Option Nat} {m m' : Fm} {O : List As} {R : List Fa} {id i2 : Nat} {lo l2 l' : List Oper} {ops : Array Oper} {x y z : Code}
theorem kS (k:Nat) (h:Wv ops n.sz k lo m=some (l',m')) (q:ve (ro:=ro) ya ops Q c n l' m' O R):ve (ro:=ro) ya ops Q c n lo m O R:=by
  induction k generalizing lo m with
  |zero=>cases h;exact q
  |succ k ih=>
    unfold Wv at h
    split at h
    · cases h;exact q
    · rename_i e; cases e
      split at h
      · rename_i hd
        split at h
        · rename_i hw
          split at h
          · rename_i hv;exact zho hw hd (zsh hv) (ih h)
          · cases h
        · rename_i hw;exact zcd hw hd (ih h)
        · cases h
      · cases h
    · cases h
theorem qY (k:Nat) (h:Wv ops n.sz k lo m=some ([],m')) (q:jh c n Q .normal m' O R):ve (ro:=ro) ya ops Q c n lo m O R:=kS k h (jq q)
theorem vZ (k:Nat) (h:Wv ops n.sz k lo m=some ([],m')) (q:vm (ro:=ro) ya Q c n y m' O R):ve (ro:=ro) ya ops (TH ro ya y Q) c n lo m O R:=kS k h (Vc q)
theorem jn (k:Nat) (h:Wv ops n.sz k lo m=some ([],m')) (q:vm (ro:=ro) ya (TH ro ya z Q) c n x m' O R):ve (ro:=ro) ya ops (TH ro ya (.seq x z) Q) c n lo m O R:=kS k h (ZI q)
theorem Zp (k:Nat) (h:Wv ops n.sz k lo m=some ([],m')) (q:jh c n Q .ret m' O R):ve (ro:=ro) ya ops (TH ro ya .ret Q) c n lo m O R:=kS k h (Va q)
theorem jD (k:Nat) (h:Wv ops n.sz k lo m=some ([],m')) (q:ve (ro:=ro) ya l2.toArray (TH ro ya z Q) c n l2 m' O R):ve (ro:=ro) ya ops (TH ro ya (.seq (.region i2 l2.toArray false) z) Q) c n lo m O R:=kS k h (Vj q)
theorem jK (k:Nat) (h:Wv lo.toArray n.sz k lo m=some (l',m')) (q:ve (ro:=ro) ya lo.toArray (TH ro ya y Q) c n l' m' O R):vm (ro:=ro) ya Q c n (.seq (.region id lo.toArray false) y) m O R:=vg (kS k h q)
theorem k12 (k:Nat) (h:Wv lo.toArray n.sz k lo m=some ([],m')) (q:vm (ro:=ro) ya Q c n y m' O R):vm (ro:=ro) ya Q c n (.seq (.region id lo.toArray false) y) m O R:=vg (kS k h (Vc q))
theorem jg (k:Nat) (h:Wv lo.toArray n.sz k lo m=some ([],m')) (q:vm (ro:=ro) ya (TH ro ya z Q) c n x m' O R):vm (ro:=ro) ya Q c n (.seq (.region id lo.toArray false) (.seq x z)) m O R:=vg (kS k h (ZI q))
theorem Zn (k:Nat) (h:Wv lo.toArray n.sz k lo m=some ([],m')) (q:jh c n Q .ret m' O R):vm (ro:=ro) ya Q c n (.seq (.region id lo.toArray false) .ret) m O R:=vg (kS k h (Va q))
theorem jS (k:Nat) (h:Wv lo.toArray n.sz k lo m=some ([],m')) (q:ve (ro:=ro) ya l2.toArray (TH ro ya z Q) c n l2 m' O R):vm (ro:=ro) ya Q c n (.seq (.region id lo.toArray false) (.seq (.region i2 l2.toArray false) z)) m O R:=vg (kS k h (Vj q))
theorem vM (k:Nat) (h:Wv lo.toArray n.sz k lo m=some (l',m')) (q:ve (ro:=ro) ya lo.toArray Q c n l' m' O R):vm (ro:=ro) ya Q c n (.region id lo.toArray false) m O R:=zv (kS k h q)
theorem k2n (k:Nat) (h:Wv lo.toArray n.sz k lo m=some ([],m')) (q:jh c n Q .normal m' O R):vm (ro:=ro) ya Q c n (.region id lo.toArray false) m O R:=zv (kS k h (jq q))
theorem k22 (k:Nat) (h:Wv lo.toArray n.sz k lo m=some ([],m')) (q:vm (ro:=ro) ya Q c n y m' O R):vm (ro:=ro) ya (TH ro ya y Q) c n (.region id lo.toArray false) m O R:=zv (kS k h (Vc q))
theorem k23 (k:Nat) (h:Wv lo.toArray n.sz k lo m=some ([],m')) (q:vm (ro:=ro) ya (TH ro ya z Q) c n x m' O R):vm (ro:=ro) ya (TH ro ya (.seq x z) Q) c n (.region id lo.toArray false) m O R:=zv (kS k h (ZI q))
theorem k25 (k:Nat) (h:Wv lo.toArray n.sz k lo m=some ([],m')) (q:jh c n Q .ret m' O R):vm (ro:=ro) ya (TH ro ya .ret Q) c n (.region id lo.toArray false) m O R:=zv (kS k h (Va q))
theorem k24 (k:Nat) (h:Wv lo.toArray n.sz k lo m=some ([],m')) (q:ve (ro:=ro) ya l2.toArray (TH ro ya z Q) c n l2 m' O R):vm (ro:=ro) ya (TH ro ya (.seq (.region i2 l2.toArray false) z) Q) c n (.region id lo.toArray false) m O R:=zv (kS k h (Vj q))
theorem k40 (k:Nat) (h:Wv lo.toArray n.sz k lo m=some (l',m')) (q:ve (ro:=ro) ya lo.toArray (TH ro ya y Q) c n l' m' O R):ve (ro:=ro) ya ops (TH ro ya (.seq (.region id lo.toArray false) y) Q) c n [] m O R:=Vj (kS k h q)
theorem k42 (k:Nat) (h:Wv lo.toArray n.sz k lo m=some ([],m')) (q:vm (ro:=ro) ya Q c n y m' O R):ve (ro:=ro) ya ops (TH ro ya (.seq (.region id lo.toArray false) y) Q) c n [] m O R:=Vj (kS k h (Vc q))
theorem k43 (k:Nat) (h:Wv lo.toArray n.sz k lo m=some ([],m')) (q:vm (ro:=ro) ya (TH ro ya z Q) c n x m' O R):ve (ro:=ro) ya ops (TH ro ya (.seq (.region id lo.toArray false) (.seq x z)) Q) c n [] m O R:=Vj (kS k h (ZI q))
theorem k80 (k:Nat) (h:Wv lo.toArray n.sz k lo m=some (l',m')) (q:ve (ro:=ro) ya lo.toArray (TH ro ya y Q) c n l' m' O R):vm (ro:=ro) ya (TH ro ya (.seq (.region id lo.toArray false) y) Q) c n .skip m O R:=kk8 (kS k h q)
theorem k83 (k:Nat) (h:Wv lo.toArray n.sz k lo m=some ([],m')) (q:vm (ro:=ro) ya (TH ro ya z Q) c n x m' O R):vm (ro:=ro) ya (TH ro ya (.seq (.region id lo.toArray false) (.seq x z)) Q) c n .skip m O R:=kk8 (kS k h (ZI q))
theorem k85 (k:Nat) (h:Wv lo.toArray n.sz k lo m=some ([],m')) (q:jh c n Q .ret m' O R):vm (ro:=ro) ya (TH ro ya (.seq (.region id lo.toArray false) .ret) Q) c n .skip m O R:=kk8 (kS k h (Va q))
end
end Sp
namespace Sp
open Go
theorem zkN {ro:Option Nat} {k:Nat} {P:Program} {row:String} {args:Array Value} {w:World} {R:Value→World→Prop} (h:Rows P row args w R):RowsIn (FR ro) k P row args w R:=fun c cs _=>by
  obtain ⟨v,w',r,s⟩:=h c cs
  refine ⟨v,w',r,?_⟩
  have:StepsIn (Machine.fenced P Fence.wide) P (lone (Frame.ofRow P row args .normal) (c :: cs) w) (lone (c.finish v) cs w'):=stepsIn_wide.2 s
  cases ro <;> exact this
def zbR (ops:Array Oper):Bool:=ops.all fun o=>match o.op with| .defer _=>false|_=>true
theorem zet {ops:Array Oper} (h:zbR ops=true) {i:Nat} {o:Oper} (hi:ops[i]? =some o):∀c,o.op≠ .defer c:=fun c e=>by
  have h1:=Array.all_eq_true.1 h
  obtain ⟨hlt,hget⟩:=yc.1 hi
  have h2:=h1 i hlt
  rw [hget,e] at h2
  cases h2
section
variable {P : Program} {Q : Exit → Act → World → Prop} {ops : Array Oper}
def zeu (Q:Exit→Act→World→Prop):Exit→Act→World→Prop
  | .panic _,_,_=>False
  | .outgrown,_,_=>False
  |e,a,w=>Q e a w
theorem zmg (Q:Exit→Act→World→Prop):¬LetsOut (zeu Q):=fun ⟨_,_,h⟩=>h
theorem zhC (Q:Exit→Act→World→Prop):v4 (zeu Q):=fun _ _ _ _ _ h=>h
theorem zpp (Q:Exit→Act→World→Prop):∀e a w,zeu Q e a w→Q e a w:=fun e a w h=>by
  cases e <;> first|exact h|exact h.elim
theorem zpq {ro:Option Nat} (hnd:zbR ops=true) {i:Nat} {K:Act→World→Prop} {a:Act} {w:World} (h:wpOp P ops (zeu Q) i K a w):wpOpIn (FR ro) 0 P ops (zeu Q) i K a w:=by
  unfold wpOp at h
  unfold wpOpIn
  cases ho:ops[i]? with
  |none=>simpa [ho] using h
  |some o=>
    simp only [ho] at h ⊢
    split
    · rename_i hw
      rw [if_pos hw] at h
      have h:=h.resolve_right (fun k=>zmg Q k.2)
      refine ⟨fun _ _=>trivial,?_⟩
      rw [Oper.semAt_eq _ _ _ (zet hnd ho)]
      unfold Oper.wp at h
      revert h
      cases (execOp a.eval o).run P w with
      |ok n w'=>
        cases n with
        |enter f args=>exact fun h=>⟨fun e=>(by cases e),zfH h⟩
        |row r args=>exact fun h=>⟨fun e=>(by cases e),zkN h⟩
        |_=>first|exact id|exact False.elim
      |halt x w'=>cases x <;> first|exact id|exact False.elim
    · rename_i hw
      rw [if_neg hw] at h
      exact ⟨fun _ _=>trivial,h⟩
theorem zfV {ro:Option Nat} (hnd:zbR ops=true):∀(k:Nat) (L:Array Bool) (a:Act) (w:World),wpAny P .any ops (zeu Q) k L a w→wpAnyIn (FR ro) 0 P .any ops (zeu Q) k L a w
  |0,_,_,_,h=>h
  |k+1,_,_,_,h=>⟨h.1,fun i hi=>wpOpIn_mono (fun a' w' h'=>zfV hnd k _ a' w' h') (zpq hnd (h.2 i hi))⟩
end
section
variable {P : Program} {c : Cx} {n : Sz} {Q : Exit → Act → World → Prop} {m : Fm} {O OW : List As} {R : List Fa}
theorem zju {ro:Option Nat} (wi:Nat) {id:Nat} {l:List Oper} (hm:P.follows .mixedOrders=true) (hs:Region.noSelect l.toArray=true) (hnd:zbR l.toArray=true) (h:vn P l.toArray (zeu Q) c n wi l.length (yp l.length false) m OW O R):vm (ro:=ro) P Q c n (.region id l.toArray true) m (OW++O) R:=by
  intro a w f mm
  obtain ⟨hh,g,mm⟩:=mm
  obtain ⟨hw,hr,ap,e,s1,s2⟩:=vG.split mm.sep
  subst e
  have hcl:Closed l.toArray wi (yp l.length false):=by
    intro q o ho ht
    have hsz:q<l.length:=by simpa using (yc.1 ho).1
    simp [yd,hsz] at ht
  have:=h (zhC Q) hs hcl a w.drew hw hr g f s1 s2 ap mm.drew
  have h2:=WI _ _ _ _ this
  refine wpIn_mono (wpIn_region_any hm (zfV hnd _ _ _ _ ?_)) (zpp Q)
  simpa using h2
theorem zjv {ops:Array Oper} {wi k:Nat} {L:Array Bool} (hr:Region.ready .any ops L=[]) (h:jh c n Q .normal m (OW++O) R):vn P ops (zeu Q) c n wi k L m OW O R:=zU hr (fun a w f mm=>h a w f mm)
end
end Sp
namespace Big
def vP:List Int→List Int
  |[]=>[]
  |x :: l=>match vP l with
    |[]=>if x=0 then [] else [x]
    |y :: t=>x :: y :: t
theorem QT:∀l:List Int,vP (l++[0])=vP l
  |[]=>by simp [vP]
  |x :: l=>by simp only [yS,vP,QT l]
theorem Ku {y:Int} (h:y≠0):∀l:List Int,vP (l++[y])=l++[y]
  |[]=>by simp [vP,h]
  |x :: l=>by
    have:=Ku h l
    simp only [yS,vP,this]
    cases l <;> rfl
theorem take_split (l:List Int) {k:Nat} (h0:0<k) (h:k≤l.length):l.take k=l.take (k - 1)++[l.getD (k - 1) 0]:=by
  obtain ⟨j,rfl⟩:∃j,k=j+1:=⟨k - 1,Oo⟩
  rw [List.take_add_one]
  have hj:j<l.length:=Oo
  simp [yh hj,yB]
theorem zev (l:List Int) {k:Nat} (h0:0<k) (h:k≤l.length) (hz:l.getD (k - 1) 0=0):vP (l.take k)=vP (l.take (k - 1)):=by
  rw [take_split l h0 h,hz,QT]
theorem Wf (l:List Int) {k:Nat} (h:k≤l.length) (hz:¬(0<k∧l.getD (k - 1) 0=0)):vP (l.take k)=l.take k:=by
  by_cases h0:0<k
  · have hne : l.getD (k - 1) 0 ≠ 0 := fun e => hz ⟨h0, e⟩
    rw [take_split l h0 h,Ku hne]
  · have : k = 0 := by omega
    subst this;simp [vP]
theorem getD_take (l:List Int) {j k:Nat} (h:j<k):(l.take k).getD j 0=l.getD j 0:=by
  simp [yB,h]
def zS:List Int→Int
  |[]=>0
  |d :: l=>d+1000000000*zS l
def Qk (l:List Int):Prop:=∀d∈l,0≤d∧d<1000000000
def pw (i:Nat):Int:=1000000000^i
theorem jy (i:Nat):pw (i+1)=1000000000*pw i:=by unfold pw;rw [Int.pow_succ,yN]
theorem VA:pw 0=1:=rfl
theorem ZB:∀i:Nat,0<pw i
  |0=>by decide
  |i+1=>by have:=ZB i;rw [jy];omega
theorem VB {i j:Nat} (h:i≤j):pw i≤pw j:=by
  induction j with
  | zero => have : i = 0 := by omega
            subst this;exact Int.le_refl _
  |succ j ih=>
    by_cases e:i=j+1
    · subst e;exact Int.le_refl _
    · have:=ih Oo;have h0:=ZB j;rw [jy];omega
theorem QU:Qk []:=fun d h=>by cases h
theorem Qa {d:Int} {l:List Int}:Qk (d :: l)↔(0≤d∧d<1000000000)∧Qk l:=by
  constructor
  · intro h;exact ⟨h d (by simp),fun x hx=>h x (by simp [hx])⟩
  · rintro ⟨h1, h2⟩ x hx
    rcases List.mem_cons.1 hx with rfl|hx
    · exact h1
    · exact h2 x hx
theorem zhD {l k:List Int} (h:Qk l) (h':Qk k):Qk (l++k):=fun d hd=>by
  rcases List.mem_append.1 hd with hd|hd
  · exact h d hd
  · exact h' d hd
theorem Qz {l:List Int} {d:Int} (h:Qk l) (h0:0≤d) (h1:d<1000000000):Qk (l++[d]):=zhD h (fun x hx=>by simp at hx;subst hx;exact ⟨h0,h1⟩)
theorem V9 {l:List Int} (h:Qk l) (k:Nat):Qk (l.take k):=fun d hd=>h d (List.mem_of_mem_take hd)
theorem qC {l:List Int} (h:Qk l) (i:Nat):0≤l.getD i 0∧l.getD i 0<1000000000:=by
  by_cases hi:i<l.length
  · have : l.getD i 0 = l[i] := by simp [yB, hi]
    rw [this];exact h _ (List.getElem_mem hi)
  · have : l.getD i 0 = 0 := by simp [yB, yH (Nat.le_of_not_lt hi)]
    rw [this];exact ⟨Int.le_refl _,Od⟩
theorem Jt:∀(l k:List Int),zS (l++k)=zS l+pw l.length*zS k
  |[],k=>by simp [zS,VA]
  |d :: l,k=>by
    simp only [yS,zS,Jt l k,yn,jy]
    rw [yl,←yD,←Int.add_assoc]
theorem QN (l:List Int) (d:Int):zS (l++[d])=zS l+pw l.length*d:=by rw [Jt];simp [zS]
theorem qV:∀{l:List Int},Qk l→0≤zS l
  |[],_=>Int.le_refl _
  |d :: l,h=>by
    have h':=Qa.1 h
    have:=qV h'.2
    simp only [zS];omega
theorem Ju:∀{l:List Int},Qk l→zS l<pw l.length
  |[],_=>by simp [zS,VA]
  |d :: l,h=>by
    have h':=Qa.1 h
    have:=Ju h'.2
    simp only [zS,yn,jy];omega
theorem J6:∀n:Nat,zS (yC n 0)=0
  |0=>rfl
  |n+1=>by simp [List.replicate_succ,zS,J6 n]
theorem jA (l:List Int) (i:Nat):zS (l.take (i+1))=zS (l.take i)+pw i*l.getD i 0:=by
  by_cases hi:i<l.length
  · rw [take_split l Oo Oo, QN]
    simp [show min i l.length=i by omega]
  · have e : l.getD i 0 = 0 := by simp [yB, yH (Nat.le_of_not_lt hi)]
    rw [e,yg Oo,yg Oo];simp
theorem Wg:∀l:List Int,zS (vP l)=zS l
  |[]=>rfl
  |x :: l=>by
    have:=Wg l
    simp only [vP]
    cases ht:vP l with
    |nil=>
      rw [ht] at this
      simp only [zS] at this ⊢
      by_cases hx:x=0
      · subst hx;simp [zS];omega
      · simp [hx,zS];omega
    |cons y t=>
      rw [ht] at this
      simp only [zS] at this ⊢
      omega
def zbu:Nat→Nat→List Int
  |0,_=>[]
  |f+1,n=>if n=0 then [] else ((n%1000000000:Nat):Int) :: zbu f (n / 1000000000)
def zd (n:Nat):List Int:=zbu n n
theorem zcq:∀(f n:Nat),n≤f→zbu (f+1) n=zbu f n
  |0,n,h=>by
    have:n=0:=Oo
    subst this;rfl
  |f+1,n,h=>by
    rw [zbu]
    conv=>rhs;rw [zbu]
    by_cases hn:n=0
    · simp [hn]
    · simp only [hn, if_false]
      rw [zcq f (n / 1000000000) Oo]
theorem zfW:∀(f n:Nat),n≤f→zbu f n=zd n
  |0,n,h=>by
    have:n=0:=Oo
    subst this;rfl
  |f+1,n,h=>by
    by_cases e:n=f+1
    · subst e;rfl
    · rw [zcq f n Oo];exact zfW f n Oo
theorem jE:zd 0=[]:=rfl
theorem QA {n:Nat} (h:n≠0):zd n=((n%1000000000:Nat):Int) :: zd (n / 1000000000):=by
  obtain ⟨m,rfl⟩:∃m,n=m+1:=⟨n - 1,Oo⟩
  unfold zd
  rw [zbu]
  simp only [h,if_false]
  congr 1
  exact zfW _ _ Oo
theorem zcr {n:Nat}:zd n=[]↔n=0:=by
  constructor
  · intro h
    by_cases e:n=0
    · exact e
    · rw [QA e] at h;cases h
  · rintro rfl;rfl
theorem qG (n:Nat):Qk (zd n):=by
  induction n using Nat.strongRecOn with
  |_ n ih=>
    by_cases h:n=0
    · subst h;exact QU
    · rw [QA h];exact Qa.2 ⟨Oo,ih _ Oo⟩
theorem qE (n:Nat):zS (zd n)=n:=by
  induction n using Nat.strongRecOn with
  |_ n ih=>
    by_cases h:n=0
    · subst h;rfl
    · rw [QA h];simp only [zS];rw [ih _ Oo];omega
theorem QO:∀{l:List Int},Qk l→vP l=zd (zS l).toNat
  |[],_=>rfl
  |x :: l,h=>by
    have h':=Qa.1 h
    have ih:=QO h'.2
    have h0:=qV h'.2
    simp only [vP,zS]
    rw [ih]
    by_cases hv:zS l=0
    · rw [hv]
      simp only [Int.toNat_zero,jE]
      by_cases hx:x=0
      · simp [hx,jE]
      · simp only [hx, if_false]
        rw [QA Oo]
        have e1:((x+1000000000*0).toNat / 1000000000)=0:=Oo
        have e2:(((x+1000000000*0).toNat%1000000000:Nat):Int)=x:=Oo
        rw [e1,e2,jE]
    · have hn : (zS l).toNat ≠ 0 := by omega
      rw [QA (n:=(x+1000000000*zS l).toNat) Oo]
      have e1:((x+1000000000*zS l).toNat / 1000000000)=(zS l).toNat:=Oo
      have e2:(((x+1000000000*zS l).toNat%1000000000:Nat):Int)=x:=Oo
      rw [e1,e2,QA hn]
theorem zhE (n:Nat):vP (zd n)=zd n:=by rw [QO (qG n),qE];simp
theorem JR {l:List Int} (h:Qk l) {n:Nat} (hv:zS l=n):vP l=zd n:=by rw [QO h,hv];simp
theorem QV {k:Nat}:∀{n:Nat},(n:Int)<pw k→(zd n).length≤k:=by
  induction k with
  | zero => intro n h; simp [VA] at h; have : n = 0 := by omega
            subst this;simp [jE]
  |succ k ih=>
    intro n h
    by_cases e:n=0
    · subst e;simp [jE]
    · rw [QA e, yn]
      have:((n / 1000000000:Nat):Int)<pw k:=by rw [jy] at h;omega
      have:=ih this
      omega
theorem zaZ {os A B:List Int} {i:Nat} {cy d c:Int} (hl:os.length=i) (hv:zS os+pw i*cy=zS (A.take i)+zS (B.take i)) (hs:A.getD i 0+B.getD i 0+cy=d+1000000000*c):
    zS (os++[d])+pw (i+1)*c=zS (A.take (i+1))+zS (B.take (i+1)):=by
  rw [QN,hl,jA,jA,jy]
  have h1:pw i*(A.getD i 0+B.getD i 0+cy)=pw i*(d+1000000000*c):=by rw [hs]
  rw [yl,yl,yl] at h1
  have h2:pw i*(1000000000*c)=1000000000*pw i*c:=by rw [← yD,yN (pw i)]
  omega
theorem zmh {os A B:List Int} {i:Nat} {cy:Int} (hA:Qk A) (hB:Qk B) (ho:Qk os) (hc:0≤cy) (hl:os.length=i) (hi:max A.length B.length+1≤i) (hv:zS os+pw i*cy=zS (A.take i)+zS (B.take i)):
    zS os=zS A+zS B:=by
  rw [yg Oo,yg Oo] at hv
  have h1:=Ju hA
  have h2:=Ju hB
  have h3:=qV ho
  have p1:=VB (show A.length≤i - 1 by omega)
  have p2:=VB (show B.length≤i - 1 by omega)
  have e:pw i=1000000000*pw (i - 1):=by rw [← jy];congr 1;omega
  have p3:=ZB (i - 1)
  by_cases hcy:cy=0
  · subst hcy;omega
  · exfalso
    have:pw i*1≤pw i*cy:=yi Oo (by rw [e];omega)
    omega
theorem zbS {os:List Int} {i n:Nat} {d:Int} (hl:os.length=i) (hi:i<n):(os++yC (n - i) 0).set i d=(os++[d])++yC (n - (i+1)) 0:=by
  rw [show n - i=(n - (i+1))+1 by omega,List.replicate_succ]
  rw [List.set_append_right _ _ Oo,hl]
  simp
theorem getD_set_ne {l:List Int} {k j:Nat} (h:j≠k) (d:Int):(l.set k d).getD j 0=l.getD j 0:=by
  simp [yB,List.getElem?_set_ne (Ne.symm h)]
theorem VI:∀{l:List Int} {k:Nat} (d:Int),k<l.length→zS (l.set k d)=zS l+pw k*(d - l.getD k 0)
  |[],_,_,h=>by simp at h
  |x :: l,0,d,_=>by simp [zS,VA];omega
  |x :: l,k+1,d,h=>by
    have:=VI (l:=l) (k:=k) d (by simpa using h)
    simp only [List.set_cons_succ,zS,this,jy,List.getD_cons_succ]
    rw [yl,yD];omega
theorem QW {l:List Int} (h:Qk l) {k:Nat} {d:Int} (h0:0≤d) (h1:d<1000000000):Qk (l.set k d):=fun x hx=>by
  rcases List.mem_or_eq_of_mem_set hx with hx|rfl
  · exact h x hx
  · exact ⟨h0,h1⟩
theorem za0 (n:Nat):Qk (yC n 0):=fun d hd=>by
  have:=(List.mem_replicate.1 hd).2;subst this;omega
theorem WK (n k:Nat):(yC n (0:Int)).getD k 0=0:=by
  simp [yB,List.getElem?_replicate];split <;> rfl
theorem zcs:∀{k:Nat} {n:Nat},k<(zd n).length→pw k≤(n:Int):=by
  intro k
  induction k with
  | zero => intro n h; rw [VA]; have : n ≠ 0 := fun e => by subst e; simp [jE] at h
            omega
  |succ k ih=>
    intro n h
    have hn:n≠0:=fun e=>by subst e;simp [jE] at h
    rw [QA hn,yn] at h
    have:=ih (n:=n / 1000000000) Oo
    rw [jy];omega
theorem Ql (n:Nat):(n:Int)<pw (zd n).length:=by
  have:=Ju (qG n);rwa [qE] at this
def ln (z:Int):Nat:=(zd z.natAbs).length
theorem Kv {z:Int} {k:Nat} (h1: - pw k<z) (h2:z<pw k):ln z≤k:=QV Oo
theorem zct (z:Int): - pw (ln z)<z∧z<pw (ln z):=by have:=Ql z.natAbs;unfold ln;omega
theorem WL (i j:Nat):pw (i+j)=pw i*pw j:=by unfold pw;rw [Int.pow_add]
theorem QJ (x y:Int):ln (x+y)≤max (ln x) (ln y)+1:=by
  have h1:=zct x;have h2:=zct y
  have m1:=VB (show ln x≤max (ln x) (ln y) by omega)
  have m2:=VB (show ln y≤max (ln x) (ln y) by omega)
  have p:=ZB (max (ln x) (ln y))
  exact Kv (by rw [jy];omega) (by rw [jy];omega)
theorem VC:ln 0=0:=rfl
theorem j6 (x:Int):ln (-x)=ln x:=by unfold ln;rw [Int.natAbs_neg]
theorem WM (x y:Int):ln (x - y)≤max (ln x) (ln y)+1:=by
  have:=QJ x (-y);rw [j6] at this;rwa [Int.sub_eq_add_neg]
theorem qI (x y:Int):ln (x*y)≤ln x+ln y:=by
  have h1:=zct x;have h2:=zct y
  have e:(x*y).natAbs=x.natAbs*y.natAbs:=Int.natAbs_mul x y
  have a1:(x.natAbs:Int)<pw (ln x):=Oo
  have a2:(y.natAbs:Int)<pw (ln y):=Oo
  have:((x*y).natAbs:Int)<pw (ln x+ln y):=by
    rw [e,WL,Int.natCast_mul]
    have p2:=ZB (ln y)
    have b1:(x.natAbs:Int)*y.natAbs≤x.natAbs*pw (ln y):=yi Oo Oo
    have b2:(x.natAbs:Int)*pw (ln y)<pw (ln x)*pw (ln y):=Int.mul_lt_mul_of_pos_right a1 p2
    omega
  exact QV this
theorem zdE {z:Int} (h1: -9223372036854775808≤z) (h2:z≤9223372036854775807):ln z≤3:=by
  have:pw 3=1000000000000000000000000000:=Od
  exact Kv Oo Oo
theorem zag {x y:Int} (h:x.natAbs≤y.natAbs):ln x≤ln y:=by
  have:=zct y
  exact Kv Oo Oo
def canon (s:Bool) (l:List Int):Prop:=if l.length=0 then s=false else l.getD (l.length - 1) 0≠0∧∀g∈l,g<1000000000
instance (s:Bool) (l:List Int):Decidable (canon s l):=by unfold canon;infer_instance
def raw (s:Bool) (l:List Int):Int:=if canon s l then (if s then - zS l else zS l) else 0
def nn (l:List Int):Prop:=∀g∈l,0≤g
theorem zfX {s:Bool} {l:List Int} (h:canon s l):vP l=l:=by
  unfold canon at h
  split at h
  · rename_i h0; have : l = [] := yo.1 h0
    subst this;rfl
  · have := Wf l (k := l.length) (yz _) (fun x => h.1 x.2)
    simpa using this
theorem zfY {s:Bool} {l:List Int} (h:canon s l) (hn:nn l):Qk l:=fun d hd=>by
  unfold canon at h
  split at h
  · rename_i h0; have : l = [] := yo.1 h0
    subst this;cases hd
  · exact ⟨hn d hd,h.2 d hd⟩
theorem QB {s:Bool} {l:List Int} (hn:nn l):zd (raw s l).natAbs=if canon s l then l else []:=by
  unfold raw
  by_cases h:canon s l
  · simp only [h, if_true]
    have hok:=zfY h hn
    have h0:=qV hok
    have e:=QO hok
    rw [zfX h] at e
    have:(if s=true then - zS l else zS l).natAbs=(zS l).toNat:=by split <;> omega
    rw [this,←e]
  · simp [h,jE]
theorem zmi:∀{l:List Int},Qk l→vP l≠[]→0<zS l:=by
  intro l h ht
  have e:=QO h
  have h0:=qV h
  by_cases hz:zS l=0
  · rw [hz] at e;exact absurd (e.trans jE) ht
  · omega
def sg (s:Bool) (n:Int):Int:=if s then -n else n
theorem JG {s:Bool} {l:List Int} (hn:nn l):sg s ((raw s l).natAbs:Int)=raw s l:=by
  unfold sg raw
  by_cases h:canon s l
  · have := qV (zfY h hn)
    simp only [h,if_true]
    cases s
    · simp;omega
    · simp;omega
  · simp [h]
theorem Ja (z:Int):canon (decide (z<0)) (zd z.natAbs):=by
  unfold canon
  split
  · rename_i h; have := zcr.1 (yo.1 h)
    simp;omega
  · rename_i h
    refine ⟨fun e=> ?_,fun g hg=>(qG _ g hg).2⟩
    have t:=zhE z.natAbs
    have hl:0<(zd z.natAbs).length:=Oo
    have hs:=take_split (zd z.natAbs) hl (yz _)
    rw [List.take_length,e] at hs
    have h2:=QT ((zd z.natAbs).take ((zd z.natAbs).length - 1))
    rw [← hs,t] at h2
    have hlen:∀k:List Int,(vP k).length≤k.length:=by
      intro k
      induction k with
      |nil=>simp [vP]
      |cons x k ih=>
        simp only [vP]
        split
        · split <;> simp
        · rename_i y t hy;rw [hy] at ih;simp at ih ⊢;omega
    have:=hlen ((zd z.natAbs).take ((zd z.natAbs).length - 1))
    rw [← h2,ym] at this
    omega
theorem vl (z:Int):raw (decide (z<0)) (zd z.natAbs)=z:=by
  unfold raw
  rw [if_pos (Ja z),qE]
  split <;> (rename_i h;simp at h;omega)
theorem zhF {s:Bool} {n:Int} (h:0<n):decide (sg s n<0)=s:=by
  unfold sg;cases s <;> simp <;> omega
theorem KI {s:Bool} {n:Int} (h:0≤n):(sg s n).natAbs=n.toNat:=by
  unfold sg;cases s <;> simp <;> omega
theorem zah (s:Bool):sg s 0=0:=by unfold sg;cases s <;> rfl
theorem za1 (z:Int):sg (decide (z<0)) (z.natAbs:Int)=z:=by unfold sg;split <;> (rename_i h;simp at h;omega)
theorem zhG (s:Bool) (n:Int):sg (!s) n= - sg s n:=by unfold sg;cases s <;> simp
theorem WN {os A B:List Int} {i:Nat} {bo d c:Int} (hl:os.length=i) (hv:zS os+zS (B.take i)=zS (A.take i)+pw i*bo) (hs:A.getD i 0+1000000000*c=d+B.getD i 0+bo):
    zS (os++[d])+zS (B.take (i+1))=zS (A.take (i+1))+pw (i+1)*c:=by
  rw [QN,hl,jA,jA,jy]
  have h1:pw i*(A.getD i 0+1000000000*c)=pw i*(d+B.getD i 0+bo):=by rw [hs]
  rw [yl,yl,yl] at h1
  have h2:pw i*(1000000000*c)=1000000000*pw i*c:=by rw [← yD,yN (pw i)]
  omega
theorem zdF {os:List Int} {a b i:Nat} {bo:Int} (hab:b≤a) (ho:Qk os) (hb0:0≤bo) (hl:os.length=i) (ha:(zd a).length≤i) (hv:zS os+zS ((zd b).take i)=zS ((zd a).take i)+pw i*bo):
    vP os=zd (a - b):=by
  have hbl:(zd b).length≤i:=by
    refine QV ?_
    have:=Ql a
    have:=VB ha
    omega
  rw [yg ha,yg hbl,qE,qE] at hv
  have h1:=Ju ho
  rw [hl] at h1
  have h3:=qV ho
  have hp:=ZB i
  have:bo=0:=by
    by_cases hz:bo=0
    · exact hz
    · exfalso
      have:pw i*1≤pw i*bo:=yi Oo Oo
      omega
  subst this
  exact JR ho Oo
theorem zcu {os A B:List Int} {i j:Nat} {p cy d c:Int} (hv:zS os+pw (i+j)*cy=zS (A.take i)*zS B+pw i*p*zS (B.take j)) (hj:i+j<os.length)
    (hs:os.getD (i+j) 0+p*B.getD j 0+cy=d+1000000000*c):
    zS (os.set (i+j) d)+pw (i+(j+1))*c=zS (A.take i)*zS B+pw i*p*zS (B.take (j+1)):=by
  rw [VI d hj,jA,←yQ,jy,yl]
  have e1:pw i*p*(pw j*B.getD j 0)=pw (i+j)*(p*B.getD j 0):=by rw [WL];ac_rfl
  have h1:pw (i+j)*(os.getD (i+j) 0+p*B.getD j 0+cy)=pw (i+j)*(d+1000000000*c):=by rw [hs]
  rw [yl,yl,yl] at h1
  have h2:pw (i+j)*(1000000000*c)=1000000000*pw (i+j)*c:=by rw [← yD,yN (pw (i+j))]
  rw [e1,Int.mul_sub]
  omega
theorem za2 {os A B:List Int} {i:Nat} {cy:Int} (hv:zS os+pw (i+B.length)*cy=zS (A.take i)*zS B+pw i*A.getD i 0*zS (B.take B.length)) (hj:i+B.length<os.length) (h0:os.getD (i+B.length) 0=0):
    zS (os.set (i+B.length) cy)=zS (A.take (i+1))*zS B:=by
  rw [VI cy hj,h0,jA,Int.add_mul]
  rw [List.take_length] at hv
  have:cy - 0=cy:=Oo
  rw [this];exact hv
def cmp (x y:Int):Int:=if x<y then -1 else if y<x then 1 else 0
theorem KJ {x y:Int} (h:x<y):cmp x y= -1:=by simp [cmp,h]
theorem KK {x y:Int} (h:y<x):cmp x y=1:=by simp [cmp,h];omega
theorem zew {a b:Nat} (h:(zd a).length≠(zd b).length):cmp ((zd a).length:Int) ((zd b).length:Int)=cmp (a:Int) (b:Int):=by
  have key:∀a b:Nat,(zd a).length<(zd b).length→(a:Int)<b:=fun a b h=>by
    have h1:=Ql a
    have h2:=zcs (k:=(zd b).length - 1) (n:=b) Oo
    have h3:=VB (show (zd a).length≤(zd b).length - 1 by omega)
    omega
  rcases yV (zd a).length (zd b).length with h1|h1
  · rw [KJ Oo,KJ (key a b h1)]
  · rw [KK Oo,KK (key b a Oo)]
theorem zcv (l:List Int) {k:Nat} (h:k<l.length):zS l=zS (l.take k)+pw k*l.getD k 0+pw (k+1)*zS (l.drop (k+1)):=by
  have e:l=l.take k++(l.getD k 0 :: l.drop (k+1)):=by
    have:l.getD k 0=l[k]:=by simp [yB,h]
    rw [this,List.getElem_cons_drop,List.take_append_drop]
  conv=>lhs;rw [e]
  rw [Jt,zS,ym,Nat.min_eq_left Oo,jy,yl]
  have:pw k*(1000000000*zS (l.drop (k+1)))=1000000000*pw k*zS (l.drop (k+1)):=by rw [← yD,yN (pw k)]
  omega
theorem zmj {l m:List Int} (hl:Qk l) (hm:Qk m) {k:Nat} (h1:k<l.length) (h2:k<m.length) (hd:l.drop (k+1)=m.drop (k+1)) (hlt:l.getD k 0<m.getD k 0):zS l<zS m:=by
  rw [zcv l h1,zcv m h2,hd]
  have a1:=Ju (V9 hl k)
  have a2:=qV (V9 hm k)
  have a3:pw (l.take k).length=pw k:=by rw [ym,Nat.min_eq_left Oo]
  rw [a3] at a1
  have:pw k*(l.getD k 0+1)≤pw k*m.getD k 0:=yi Oo (by have:=ZB k;omega)
  rw [yl] at this
  omega
theorem zhH {a b k:Nat} (hl:(zd a).length=(zd b).length) (h1:k<(zd a).length) (hd:(zd a).drop (k+1)=(zd b).drop (k+1)) (hne:(zd a).getD k 0≠(zd b).getD k 0):
    cmp ((zd a).getD k 0) ((zd b).getD k 0)=cmp (a:Int) (b:Int):=by
  rcases Int.lt_or_gt_of_ne hne with h|h
  · have := zmj (qG a) (qG b) h1 Oo hd h
    rw [qE,qE] at this
    rw [KJ h,KJ this]
  · have := zmj (qG b) (qG a) Oo h1 hd.symm h
    rw [qE,qE] at this
    rw [KK h,KK this]
theorem zdG {l m:List Int} {k:Nat} (h1:k<l.length) (h2:k<m.length) (hd:l.drop (k+1)=m.drop (k+1)) (he:l.getD k 0=m.getD k 0):l.drop k=m.drop k:=by
  rw [List.drop_eq_getElem_cons h1,List.drop_eq_getElem_cons h2,hd]
  congr 1
  simpa [yB,h1,h2] using he
theorem cmp_eq {a b:Nat} (h:(zd a)=(zd b)):(a:Int)=b:=by
  have:=congrArg zS h;rwa [qE,qE] at this
theorem JH {x y:Int}:0≤cmp x y↔y≤x:=by
  unfold cmp;split
  · simp;omega
  · split <;> simp <;> omega
theorem getD_mem {l:List Int} {i:Nat} (h:i<l.length):l.getD i 0∈l:=by
  have:l.getD i 0=l[i]:=by simp [yB,h]
  rw [this];exact List.getElem_mem h
theorem zfZ {l:List Int} {g:Int} (h:g∈l):∃j,j<l.length∧l.getD j 0=g:=by
  obtain ⟨j,hj,e⟩:=List.getElem_of_mem h
  exact ⟨j,hj,by simp [yB,hj,e]⟩
theorem WO {s:Bool} {l:List Int} (h:l.length≠0):canon s l↔l.getD (l.length - 1) 0≠0∧¬∃g∈l,1000000000≤g:=by
  unfold canon
  rw [if_neg h]
  constructor
  · rintro ⟨h1, h2⟩
    exact ⟨h1,fun ⟨g,hg,hb⟩=>by have:=h2 g hg;omega⟩
  · rintro ⟨h1, h2⟩
    exact ⟨h1,fun g hg=>by
      by_cases hb:g<1000000000
      · exact hb
      · exact absurd ⟨g,hg,Oo⟩ h2⟩
theorem zkO {l:List Int} (_:Qk l) (ht:(vP l).length=0):zS l=0:=by
  rw [← Wg,yo.1 ht];rfl
theorem zhI {n:Nat} (h:n<18446744073709551616):(zd n).length≤3:=by
  have:pw 3=1000000000000000000000000000:=Od
  exact QV Oo
theorem zcw {os:List Int} {n m:Nat} (hn:0<n) (h:os++zd n=zd m):(os++[((n%1000000000:Nat):Int)])++zd (n / 1000000000)=zd m:=by
  have e:zd n=((n%1000000000:Nat):Int) :: zd (n / 1000000000):=QA Oo
  rw [← h,e,yw];rfl
theorem Ze {n:Nat}:(zd n).length=0↔n=0:=by rw [yo,zcr]
theorem zex (s t:Bool) (a b:Nat):sg (decide (s≠t)) ((a*b:Nat):Int)=sg s (a:Int)*sg t (b:Int):=by
  unfold sg;cases s <;> cases t <;> simp [Int.natCast_mul,Int.neg_mul,Int.mul_neg]
theorem sign_neg {s:Bool} {l:List Int} (hn:nn l) (hs:s=true) (h:raw s l≠0):(raw s l).sign= -1:=by
  have e:=JG (s:=s) hn
  subst hs
  have:raw true l<0:=by unfold sg at e;simp at e;omega
  exact Int.sign_eq_neg_one_of_neg this
theorem zmk {s:Bool} {l:List Int} (hn:nn l) (hs:s=false) (h:raw s l≠0):(raw s l).sign=1:=by
  have e:=JG (s:=s) hn
  subst hs
  have:0<raw false l:=by unfold sg at e;simp at e;omega
  exact Int.sign_eq_one_of_pos this
theorem zbT {p q:Int} (hp:0≤p∧p<1000000000) (hq:0≤q∧q<1000000000):0≤p*q∧p*q≤999999998000000001:=by
  have h1:p*q≤p*999999999:=yi Oo hp.1
  have h0:=Int.mul_nonneg hp.1 hq.1
  omega
theorem zai {s:Bool} {l:List Int} (hn:nn l) (hc:canon s l):decide (raw s l<0)=s:=by
  have e:=JG (s:=s) hn
  by_cases h0:raw s l=0
  · have hd := QB (s := s) hn
    rw [if_pos hc,h0] at hd
    have:l=[]:=hd.symm
    subst this
    have:s=false:=by simpa [canon] using hc
    subst this;simp [h0]
  · rw [← e];exact zhF Oo
theorem zkP {s:Bool} {l:List Int} {k:Nat} (ho:Qk l) (h:l.take k=zd (sg s (zS l)).natAbs) (hl:(l.take k).length=k):decide (sg s (zS l)<0)=decide (s=true∧0<k):=by
  have h0:=qV ho
  by_cases hz:zS l=0
  · have : k = 0 := by rw [h, hz, zah] at hl; exact hl.symm
    subst this;rw [hz,zah];simp
  · have hk:0<k:=by
      rcases Nat.eq_zero_or_pos k with e|e
      · subst e
        have:(sg s (zS l)).natAbs=0:=zcr.1 (by simpa using h.symm)
        rw [KI h0] at this;omega
      · exact e
    rw [zhF Oo];simp [hk]
theorem zml {os:List Int} {a b i:Nat} {cy:Int} (hl:os.length=i) (ha:(zd a).length≤i) (hb:(zd b).length≤i) (hv:zS os+pw i*cy=zS ((zd a).take i)+zS ((zd b).take i)):
    (sg false (zS (os++[cy]))).natAbs=a+b:=by
  rw [yg ha,yg hb,qE,qE] at hv
  rw [QN,hl,hv];unfold sg;simp;omega
end Big
end Go.Proofs.YtpdbimfnhglhpaaGreat
