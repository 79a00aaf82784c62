/- Lemmas on the walk and plain lemmas that the claim of this folder uses; each states its own conditions. Lines were printed by a program of ours. -/
import Derived.Below
import Derived.Calls
import Derived.Carry
import Derived.ChangeKeysEq
import Derived.Deep.Slices
import Derived.DeepKeys4
import Derived.JoinedCond
import Derived.KernelRfl
import Derived.Laws.AppendOwn
import Derived.Laws.AppendOwnNone
import Derived.Laws.CopyRow
import Derived.Laws.Entries
import Derived.Laws.MakeOwn
import Derived.Maps.Keyed
import Derived.Maps.RangeRun
import Derived.OpenShut
import Derived.Orders
import Derived.OrdersHeld
import Derived.OrdersIn
import Derived.OwnWalkIn
import Derived.ProofKit
import Derived.RangeFuncCalls
import Derived.RangeFuncKeeps
import Derived.Scope
import Derived.Tactics
import Derived.Test.YtpdbimfnhglhpaaGreatProg
import Derived.WalkLawsBesides
import Derived.WideKeyPair
set_option linter.unusedVariables false
set_option linter.unusedSimpArgs false
set_option linter.unusedSectionVars false
open Go.Proofs.Tryz renaming prog → ya
namespace Go.Proofs.YtpdbimfnhglhpaaGreat.Sp
open Go
set_option linter.unusedVariables false
abbrev Hp:=Nat→Option Obj
def Hp.emp:Hp:=fun _=>none
def Hp.single (b:Nat) (o:Obj):Hp:=fun r=>if r=b then some o else none
def Hp.join (h k:Hp):Hp:=fun r=>match h r with|some o=>some o|none=>k r
def Hp.le (h k:Hp):Prop:=∀b o,h b=some o→k b=some o
def Hp.apart (h k:Hp):Prop:=∀b,h b=none∨k b=none
def Has (w:World) (h:Hp):Prop:=∀b o,h b=some o→w.heap[b]? =some o
theorem Hp.le_refl (h:Hp):h.le h:=fun _ _ x=>x
theorem Hp.le_trans {h k l:Hp} (a:h.le k) (b:k.le l):h.le l:=fun _ _ x=>b _ _ (a _ _ x)
theorem Hp.le_joinL (h k:Hp):h.le (h.join k):=fun b o e=>by simp [Hp.join,e]
theorem Hp.le_joinR {h k:Hp} (a:h.apart k):k.le (h.join k):=fun b o e=>by
  rcases a b with a|a
  · simp [Hp.join,a,e]
  · rw [a] at e;cases e
theorem Hp.join_le {h k l:Hp} (a:h.le l) (b:k.le l):(h.join k).le l:=fun r o e=>by
  unfold Hp.join at e
  cases hr:h r with
  |some x=>rw [hr] at e;exact a _ _ (hr.trans e)
  |none=>rw [hr] at e;exact b _ _ e
theorem Hp.apart_symm {h k:Hp} (a:h.apart k):k.apart h:=fun b=>(a b).symm
theorem Hp.join_none {h k:Hp} {b:Nat}:h.join k b=none↔h b=none∧k b=none:=by
  unfold Hp.join;cases h b <;> simp
theorem Hp.apart_join {h k l:Hp}:(h.join k).apart l↔h.apart l∧k.apart l:=by
  constructor
  · intro a
    exact ⟨fun b=>(a b).imp (fun x=>(Hp.join_none.1 x).1) id,fun b=>(a b).imp (fun x=>(Hp.join_none.1 x).2) id⟩
  · rintro ⟨a, b⟩ r
    rcases a r with a|a
    · rcases b r with b | b
      · exact .inl (Hp.join_none.2 ⟨a,b⟩)
      · exact .inr b
    · exact .inr a
theorem Hp.apart_joinR {h k l:Hp}:l.apart (h.join k)↔l.apart h∧l.apart k:=
  ⟨fun a=>(Hp.apart_join.1 (Hp.apart_symm a)).imp Hp.apart_symm Hp.apart_symm,fun a=>Hp.apart_symm (Hp.apart_join.2 ⟨Hp.apart_symm a.1,Hp.apart_symm a.2⟩)⟩
theorem Hp.join_emp (h:Hp):h.join Hp.emp=h:=by funext b;unfold Hp.join Hp.emp;cases h b <;> rfl
theorem Hp.emp_join (h:Hp):Hp.emp.join h=h:=rfl
theorem Hp.emp_apart (h:Hp):Hp.emp.apart h:=fun _=> .inl rfl
theorem Hp.join_assoc (h k l:Hp):(h.join k).join l=h.join (k.join l):=by funext b;unfold Hp.join;cases h b <;> rfl
theorem Hp.join_comm {h k:Hp} (a:h.apart k):h.join k=k.join h:=by
  funext b;unfold Hp.join
  rcases a b with e|e <;> rw [e]
  · cases k b <;> rfl
  · cases h b <;> rfl
theorem Hp.single_self (b:Nat) (o:Obj):Hp.single b o b=some o:=by simp [Hp.single]
theorem Hp.apart_of_le {h h' k:Hp} (l:h.le h') (a:h'.apart k):h.apart k:=fun b=>by
  rcases a b with a|a
  · refine .inl ?_
    cases e:h b with
    |none=>rfl
    |some o=>rw [l _ _ e] at a;cases a
  · exact .inr a
theorem Has.mono {w:World} {h k:Hp} (a:Has w k) (l:h.le k):Has w h:=fun _ _ e=>a _ _ (l _ _ e)
theorem Has.join {w:World} {h k:Hp} (a:Has w h) (b:Has w k):Has w (h.join k):=fun r o e=>by
  unfold Hp.join at e
  cases hr:h r with
  |some x=>rw [hr] at e;exact a _ _ (hr.trans e)
  |none=>rw [hr] at e;exact b _ _ e
theorem Has.lt {w:World} {h:Hp} (a:Has w h) {b:Nat} (hb:h b≠none):b<w.heap.size:=by
  cases e:h b with
  |none=>exact absurd e hb
  |some o=>exact (Array.getElem?_eq_some_iff.1 (a _ _ e)).1
structure As where
  on:Hp→Hp→Prop
  mono:∀g g' h,g.le g'→on g h→on g' h
structure Fa where
  on:Hp→Prop
  mono:∀g g',g.le g'→on g→on g'
def Sep (g:Hp):List As→Hp→Prop
  |[],h=>h=Hp.emp
  |A :: l,h=>∃h1 h2,h1.apart h2∧h=h1.join h2∧A.on g h1∧Sep g l h2
def Holds (g:Hp):List Fa→Prop
  |[]=>True
  |r :: l=>r.on g∧Holds g l
theorem Sep.mono {g g':Hp} (hg:g.le g'):∀{O:List As} {h:Hp},Sep g O h→Sep g' O h
  |[],_,e=>e
  |A :: _,_,⟨h1,h2,a,e,x,y⟩=>⟨h1,h2,a,e,A.mono _ _ _ hg x,Sep.mono hg y⟩
theorem Holds.mono {g g':Hp} (hg:g.le g'):∀{R:List Fa},Holds g R→Holds g' R
  |[],_=>trivial
  |r :: _,⟨x,y⟩=>⟨r.mono _ _ hg x,Holds.mono hg y⟩
theorem Holds.get {g:Hp}:∀{R:List Fa} (i:Nat) {r:Fa},R[i]? =some r→Holds g R→r.on g
  |[],_,_,e,_=>by simp at e
  |_ :: _,0,_,e,h=>by simp at e;subst e;exact h.1
  |_ :: _,i+1,_,e,h=>Holds.get i (by simpa using e) h.2
theorem Holds.app {g:Hp}:∀{R R':List Fa},Holds g R→Holds g R'→Holds g (R++R')
  |[],_,_,h=>h
  |_ :: _,_,⟨x,y⟩,h=>⟨x,Holds.app y h⟩
theorem Sep.app {g:Hp}:∀{O O':List As} {h h':Hp},Sep g O h→Sep g O' h'→h.apart h'→Sep g (O++O') (h.join h')
  |[],_,_,_,e,x,_=>by cases e;exact x
  |_ :: _,_,_,h',⟨h1,h2,a,e,x,y⟩,z,ap=>by
    subst e
    have ap':=Hp.apart_join.1 ap
    exact ⟨h1,h2.join h',Hp.apart_joinR.2 ⟨a,ap'.1⟩,Hp.join_assoc _ _ _,x,Sep.app y z ap'.2⟩
theorem Sep.split {g:Hp}:∀{O O':List As} {h:Hp},Sep g (O++O') h→∃h1 h2,h1.apart h2∧h=h1.join h2∧Sep g O h1∧Sep g O' h2
  |[],_,h,x=>⟨Hp.emp,h,Hp.emp_apart h,rfl,rfl,x⟩
  |_ :: _,_,_,⟨h1,h2,a,e,x,y⟩=>by
    obtain ⟨k1,k2,b,e2,y1,y2⟩:=Sep.split y
    subst e2
    have a':=Hp.apart_joinR.1 a
    exact ⟨h1.join k1,k2,Hp.apart_join.2 ⟨a'.2,b⟩,by rw [e,Hp.join_assoc],⟨h1,k1,a'.1,rfl,x,y1⟩,y2⟩
theorem Sep.pick {g:Hp}:∀{O:List As} (i:Nat) {A:As} {h:Hp},O[i]? =some A→Sep g O h→
    ∃h1 h2,h1.apart h2∧h=h1.join h2∧A.on g h1∧Sep g (O.eraseIdx i) h2∧∀A' h1',A'.on g h1'→h1'.apart h2→Sep g (O.set i A') (h1'.join h2)
  |[],_,_,_,e,_=>by simp at e
  |_ :: _,0,_,_,e,⟨h1,h2,a,eh,x,y⟩=>by
    simp at e;subst e
    exact ⟨h1,h2,a,eh,x,y,fun A' h1' hx ha=>⟨h1',h2,ha,rfl,hx,y⟩⟩
  |B :: _,i+1,_,_,e,⟨h1,h2,a,eh,x,y⟩=>by
    obtain ⟨k1,k2,b,e2,z1,z2,z3⟩:=Sep.pick i (by simpa using e) y
    subst e2;subst eh
    have a':=Hp.apart_joinR.1 a
    refine ⟨k1,h1.join k2,Hp.apart_joinR.2 ⟨Hp.apart_symm a'.1,b⟩,?_,z1,⟨h1,k2,a'.2,rfl,x,z2⟩,?_⟩
    · rw [← Hp.join_assoc,←Hp.join_assoc,Hp.join_comm a'.1]
    · intro A' h1' hx ha
      have ha':=Hp.apart_joinR.1 ha
      refine ⟨h1,h1'.join k2,Hp.apart_joinR.2 ⟨Hp.apart_symm ha'.1,a'.2⟩,?_,x,z3 A' h1' hx ha'.2⟩
      rw [← Hp.join_assoc,←Hp.join_assoc,Hp.join_comm ha'.1]
structure Cx where
  W:World
  D:Hp
  G:Hp
structure Kept (c:Cx) (w:World):Prop where
  os:w.os=c.W.os
  tape:w.tape=c.W.tape
  output:w.output=c.W.output
  size:c.W.heap.size≤w.heap.size
  block:∀b,b<c.W.heap.size→c.D b=none→w.heap[b]? =c.W.heap[b]?
structure MemAt (c:Cx) (w:World) (O:List As) (R:List Fa) (h g:Hp):Prop where
  sep:Sep g O h
  holds:Holds g R
  apart:h.apart g
  hasH:Has w h
  hasG:Has w g
  le:c.G.le g
  newG:∀b,c.G b=none→g b≠none→c.W.heap.size≤b∨c.D b≠none
  newH:∀b,c.D b=none→h b≠none→c.W.heap.size≤b
  kept:Kept c w
def Mem (c:Cx) (w:World) (O:List As) (R:List Fa):Prop:=∃h g,MemAt c w O R h g
theorem Mem.start {w:World} {O:List As} {R:List Fa} {h g:Hp} (hs:Sep g O h) (hr:Holds g R) (ha:h.apart g) (hh:Has w h) (hg:Has w g):MemAt ⟨w,h,g⟩ w O R h g:=
  ⟨hs,hr,ha,hh,hg,Hp.le_refl _,fun b e n=>absurd e n,fun b e n=>absurd e n,⟨rfl,rfl,rfl,Nat.le_refl _,fun _ _ _=>rfl⟩⟩
theorem MemAt.frame {c:Cx} {w:World} {O F:List As} {R:List Fa} {ho hf g:Hp} (hs:Sep g O ho) (hsf:Sep g F hf) (ha:ho.apart hf) (m:MemAt c w (O++F) R (ho.join hf) g)
    {w':World} {O':List As} {R':List Fa} (h:Mem ⟨w,ho,g⟩ w' O' R'):Mem c w' (O'++F) (R'++R):=by
  obtain ⟨h',g',m'⟩:=h
  have hfw:Has w' hf:=fun b o e=>by
    have hw:=m.hasH b o (Hp.le_joinR ha b o e)
    have hlt:=(Array.getElem?_eq_some_iff.1 hw).1
    rw [m'.kept.block b hlt (by rcases ha b with x|x;exact x;rw [x] at e;cases e)]
    exact hw
  have hfg:hf.apart g':=fun b=>by
    cases e:hf b with
    |none=>exact .inl rfl
    |some o=>
      refine .inr ?_
      cases e':g' b with
      |none=>rfl
      |some o'=>
        have hw:=m.hasH b o (Hp.le_joinR ha b o e)
        have hlt:=(Array.getElem?_eq_some_iff.1 hw).1
        have hgn:g b=none:=by
          rcases m.apart b with x|x
          · rw [Hp.le_joinR ha b o e] at x;cases x
          · exact x
        rcases m'.newG b hgn (by rw [e'];simp) with x|x
        · simp only at x;omega
        · rcases ha b with y | y
          · exact absurd y x
          · rw [y] at e;cases e
  have hfh:h'.apart hf:=fun b=>by
    cases e:hf b with
    |none=>exact .inr rfl
    |some o=>
      refine .inl ?_
      cases e':h' b with
      |none=>rfl
      |some o'=>
        have hw:=m.hasH b o (Hp.le_joinR ha b o e)
        have hlt:=(Array.getElem?_eq_some_iff.1 hw).1
        have hdn:ho b=none:=by
          rcases ha b with x|x
          · exact x
          · rw [x] at e;cases e
        have:=m'.newH b hdn (by rw [e'];simp)
        simp only at this
        omega
  refine ⟨h'.join hf,g',Sep.app m'.sep (Sep.mono m'.le hsf) hfh,Holds.app m'.holds (Holds.mono m'.le m.holds),Hp.apart_join.2 ⟨m'.apart,hfg⟩,Has.join m'.hasH hfw,m'.hasG,Hp.le_trans m.le m'.le,?_,?_,?_⟩
  · intro b e n
    by_cases hg:g b=none
    · rcases m'.newG b hg n with x | x
      · exact .inl (Nat.le_trans m.kept.size x)
      · have hj : (ho.join hf) b ≠ none := fun y => x (Hp.join_none.1 y).1
        by_cases hd:c.D b=none
        · exact .inl (m.newH b hd hj)
        · exact .inr hd
    · exact m.newG b e hg
  · intro b e n
    by_cases hh:(ho.join hf) b=none
    · have hj := Hp.join_none.1 hh
      have:h' b≠none:=fun x=>n (Hp.join_none.2 ⟨x,hj.2⟩)
      exact Nat.le_trans m.kept.size (m'.newH b hj.1 this)
    · exact m.newH b e hh
  · refine ⟨m'.kept.os.trans m.kept.os, m'.kept.tape.trans m.kept.tape, m'.kept.output.trans m.kept.output, Nat.le_trans m.kept.size m'.kept.size, fun b hb e => ?_⟩
    have hno:ho b=none:=by
      cases x:ho b with
      |none=>rfl
      |some o=>
        have:=m.newH b e (by rw [Hp.le_joinL _ _ _ _ x];simp)
        omega
    rw [m'.kept.block b (Nat.lt_of_lt_of_le hb m.kept.size) hno]
    exact m.kept.block b hb e
theorem Mem.framed {c:Cx} {w:World} {O F:List As} {R:List Fa} (m:Mem c w (O++F) R):
    ∃h g,Sep g O h∧Holds g R∧h.apart g∧Has w h∧Has w g∧∀w' O' R',Mem ⟨w,h,g⟩ w' O' R'→Mem c w' (O'++F) (R'++R):=by
  obtain ⟨h,g,m⟩:=m
  obtain ⟨ho,hf,ha,e,s1,s2⟩:=Sep.split m.sep
  subst e
  exact ⟨ho,g,s1,m.holds,(Hp.apart_join.1 m.apart).1,Has.mono m.hasH (Hp.le_joinL _ _),m.hasG,fun w' O' R' x=>MemAt.frame s1 s2 ha m x⟩
theorem Mem.weaken {c:Cx} {w:World} {O O':List As} {R R':List Fa} (m:Mem c w O R)
    (h:∀h g,Sep g O h→Holds g R→h.apart g→∃h' g',Sep g' O' h'∧Holds g' R'∧h'.le h∧g.le g'∧h'.apart g'∧∀b o,g' b=some o→g b=some o∨h b=some o):Mem c w O' R':=by
  obtain ⟨hh,g,m⟩:=m
  obtain ⟨h',g',s,r,l1,l2,ap,k⟩:=h hh g m.sep m.holds m.apart
  refine ⟨h',g',s,r,ap,Has.mono m.hasH l1,fun b o e=> ?_,Hp.le_trans m.le l2,?_,?_,m.kept⟩
  · rcases k b o e with x | x
    · exact m.hasG _ _ x
    · exact m.hasH _ _ x
  · intro b e n
    cases x:g' b with
    |none=>exact absurd x n
    |some o=>
      rcases k b o x with y|y
      · exact m.newG b e (by rw [y];simp)
      · by_cases d : c.D b = none
        · exact .inl (m.newH b d (by rw [y];simp))
        · exact .inr d
  · intro b e n
    refine m.newH b e (fun x=>n ?_)
    cases y:h' b with
    |none=>rfl
    |some o=>rw [l1 _ _ y] at x;cases x
end Go.Proofs.YtpdbimfnhglhpaaGreat.Sp
namespace Go.Proofs.YtpdbimfnhglhpaaGreat.Sp
open Go
set_option linter.unusedVariables false
abbrev Fm:=List (Nat×Value)
def lk:Fm→Nat→Option Value
  |[],_=>none
  |(k,v) :: m,t=>match Nat.beq k t with
    |true=>some v
    |false=>lk m t
def evo (m:Fm):Operand→Option Value
  | .tmp t=>lk m t
  | .const v=>some v
  | .global g=>some (.pointer (some ⟨g,0,none⟩))
  | .func f=>some (.func (.func f) #[] #[])
structure Sz where
  sz:Nat
  ds:List Deferred
structure Fr (n:Sz) (a:Act) (m:Fm):Prop where
  defers:a.defers=n.ds
  size:a.tmps.size=n.sz
  tmp:∀t v,lk m t=some v→a.tmps[t]? =some v
theorem Fr.ev {n:Sz} {a:Act} {m:Fm} (h:Fr n a m) {x:Operand} {v:Value} (e:evo m x=some v):a.eval x=v:=by
  cases x with
  |tmp t=>simp only [Act.eval];have:=h.tmp t v e;simp [Array.getD_eq_getD_getElem?,this]
  |const c=>simp only [evo,Option.some.injEq] at e;exact e
  |global g=>simp only [evo,Option.some.injEq] at e;exact e
  |func f=>simp only [evo,Option.some.injEq] at e;exact e
def updM (m:Fm):Option Tmp→Value→Fm
  |some t,v=>(t,v) :: m
  |none,_=>m
def okT (n:Sz):Option Tmp→Bool
  |some t=>Nat.ble (t+1) n.sz
  |none=>true
theorem Fr.put {n:Sz} {a:Act} {m:Fm} (h:Fr n a m) {d:Option Tmp} (hd:okT n d=true) (v:Value):Fr n (a.put d v) (updM m d v):=by
  cases d with
  |none=>exact h
  |some t=>
    have ht:t<n.sz:=Nat.lt_of_succ_le (Nat.le_of_ble_eq_true hd)
    refine ⟨h.defers,by simp [Act.put,h.size],fun s u e=> ?_⟩
    simp only [updM,lk] at e
    simp only [Act.put,Array.getElem?_setIfInBounds,h.size]
    split at e
    · rename_i hb
      have:t=s:=Nat.eq_of_beq_eq_true hb
      subst this
      simp [ht];simpa using e
    · rename_i hb
      have:t≠s:=fun x=>by subst x;simp [Nat.beq_refl] at hb
      rw [if_neg this]
      exact h.tmp s u e
def SubM:Fm→Fm→Prop
  |[],_=>True
  |(t,v) :: l,m=>lk m t=some v∧SubM l m
theorem SubM.lk {m:Fm}:∀{l:Fm},SubM l m→∀t v,lk l t=some v→Sp.lk m t=some v
  |[],_,_,_,e=>by cases e
  |(k,u) :: l,⟨x,y⟩,t,v,e=>by
    simp only [Sp.lk] at e
    split at e
    · rename_i hb
      have:k=t:=Nat.eq_of_beq_eq_true hb
      subst this;cases e;exact x
    · exact SubM.lk y t v e
theorem Fr.sub {n:Sz} {a:Act} {m l:Fm} (h:Fr n a m) (s:SubM l m):Fr n a l:=⟨h.defers,h.size,fun t v e=>h.tmp t v (s.lk t v e)⟩
def pickO:List Nat→List As→Option (List As)
  |[],_=>some []
  |i :: is,O=>match O[i]? with
    |some A=>match pickO is (O.eraseIdx i) with
      |some l=>some (A :: l)
      |none=>none
    |none=>none
theorem Sep.picks {g:Hp}:∀{is:List Nat} {O O':List As} {h:Hp},pickO is O=some O'→Sep g O h→∃h',h'.le h∧Sep g O' h'
  |[],_,_,h,e,_=>by cases e;exact ⟨Hp.emp,(fun _ _ x=>by cases x),rfl⟩
  |i :: is,O,O',h,e,s=>by
    simp only [pickO] at e
    split at e
    · rename_i A hA
      split at e
      · rename_i l hl
        cases e
        obtain ⟨h1,h2,a,eh,x,y,_⟩:=Sep.pick i hA s
        obtain ⟨h',l',s'⟩:=Sep.picks hl y
        subst eh
        refine ⟨h1.join h',Hp.join_le (Hp.le_joinL _ _) (Hp.le_trans l' (Hp.le_joinR a)),h1,h',Hp.apart_symm (Hp.apart_of_le l' (Hp.apart_symm a)),rfl,x,s'⟩
      · cases e
    · cases e
def SelR:List Nat→List Fa→List Fa→Prop
  |[],_,[]=>True
  |j :: js,R,r :: R'=>R[j]? =some r∧SelR js R R'
  |_,_,_=>False
theorem SelR.holds {g:Hp}:∀{js:List Nat} {R R':List Fa},SelR js R R'→Holds g R→Holds g R'
  |[],_,[],_,_=>trivial
  |j :: js,_,_ :: _,⟨x,y⟩,h=>⟨Holds.get j x h,SelR.holds y h⟩
theorem Mem.sel {c:Cx} {w:World} {O O':List As} {R R':List Fa} (m:Mem c w O R) {is js:List Nat} (ho:pickO is O=some O') (hr:SelR js R R'):Mem c w O' R':=
  m.weaken fun h g s r a=>by
    obtain ⟨h',l,s'⟩:=Sep.picks ho s
    exact ⟨h',g,s',SelR.holds hr r,l,Hp.le_refl _,Hp.apart_of_le l a,fun _ _ e=> .inl e⟩
section
abbrev FR (ro:Option Nat):Fence:={Fence.wide with round:=ro}
variable {P : Program} {Q : Exit → Act → World → Prop} {c : Cx} {n : Sz} {ro : Option Nat}
def Post (c:Cx) (n:Sz) (Q:Exit→Act→World→Prop) (e:Exit) (m:Fm) (O:List As) (R:List Fa):Prop:=∀a w,Fr n a m→Mem c w O R→Q e a w
def RunC {ro:Option Nat} (P:Program) (Q:Exit→Act→World→Prop) (c:Cx) (n:Sz) (code:Code) (m:Fm) (O:List As) (R:List Fa):Prop:=∀a w,Fr n a m→Mem c w O R→code.wpIn (FR ro) 0 P Q a w
def RunL {ro:Option Nat} (P:Program) (ops:Array Oper) (Q:Exit→Act→World→Prop) (c:Cx) (n:Sz) (l:List Oper) (m:Fm) (O:List As) (R:List Fa):Prop:=∀a w,Fr n a m→Mem c w O R→wpListIn (FR ro) 0 P ops Q l a w
variable {m m' : Fm} {O O' : List As} {R R' : List Fa}
theorem ze {x y:Code} (h:RunC (ro:=ro) P (Exit.then (y.wpIn (FR ro) 0 P Q) Q) c n x m O R):RunC (ro:=ro) P Q c n (.seq x y) m O R:=fun a w f mm=>wpIn_seq (h a w f mm)
theorem zc {y:Code} (h:RunC (ro:=ro) P Q c n y m O R):Post c n (Exit.then (y.wpIn (FR ro) 0 P Q) Q) .normal m O R:=h
theorem zu {K:Act→World→Prop} (h:Post c n Q .ret m O R):Post c n (Exit.then K Q) .ret m O R:=h
theorem zg {K:Act→World→Prop} {id:Nat} (h:Post c n Q (.exit id) m O R):Post c n (Exit.then K Q) (.exit id) m O R:=h
theorem zw (h:Post c n Q .normal m O R):RunC (ro:=ro) P Q c n .skip m O R:=fun a w f mm=>wpIn_skip (h a w f mm)
theorem zG (h:Post c n Q .ret m O R):RunC (ro:=ro) P Q c n .ret m O R:=fun a w f mm=>wpIn_ret (h a w f mm)
theorem zaa {id:Nat} (h:Post c n Q (.exit id) m O R):RunC (ro:=ro) P Q c n (.exit id) m O R:=fun a w f mm=>wpIn_exit (h a w f mm)
theorem zt {id:Nat} {x:Code} (h:RunC (ro:=ro) P (Exit.inBlock id Q) c n x m O R):RunC (ro:=ro) P Q c n (.block id x) m O R:=fun a w f mm=>wpIn_block (h a w f mm)
theorem zK {id:Nat} (h:Post c n Q .normal m O R):Post c n (Exit.inBlock id Q) .normal m O R:=h
theorem zX {id:Nat} (h:Post c n Q .ret m O R):Post c n (Exit.inBlock id Q) .ret m O R:=h
theorem zp {id:Nat} (h:Post c n Q .normal m O R):Post c n (Exit.inBlock id Q) (.exit id) m O R:=fun a w f mm=>by
  simp only [Exit.inBlock,if_true];exact h a w f mm
theorem zvd {id id':Nat} (hne:Nat.beq id' id=false) (h:Post c n Q (.exit id') m O R):Post c n (Exit.inBlock id Q) (.exit id') m O R:=fun a w f mm=>by
  have:id'≠id:=fun e=>by subst e;simp [Nat.beq_refl] at hne
  simp only [Exit.inBlock,if_neg this];exact h a w f mm
theorem zD {x:Operand} {p:Prop} [Decidable p] {y z:Code} (e:evo m x=some (.bool (decide p))) (t:p→RunC (ro:=ro) P Q c n y m O R) (f:¬p→RunC (ro:=ro) P Q c n z m O R):
    RunC (ro:=ro) P Q c n (.cond x y z) m O R:=fun a w fr mm=>by
  have he:=fr.ev e
  by_cases hp:p
  · exact wpIn_cond_true (by rw [he];simp [hp]) (t hp a w fr mm)
  · exact wpIn_cond_false (by rw [he];simp [hp]) (f hp a w fr mm)
theorem zXa {x:Operand} {b:Bool} {y z:Code} (e:evo m x=some (.bool b)) (t:b=true→RunC (ro:=ro) P Q c n y m O R) (f:b=false→RunC (ro:=ro) P Q c n z m O R):
    RunC (ro:=ro) P Q c n (.cond x y z) m O R:=fun a w fr mm=>by
  have he:=fr.ev e
  cases b
  · exact wpIn_cond_false he (f rfl a w fr mm)
  · exact wpIn_cond_true he (t rfl a w fr mm)
theorem za {id:Nat} {l:List Oper} (h:RunL (ro:=ro) P l.toArray Q c n l m O R):RunC (ro:=ro) P Q c n (.region id l.toArray false) m O R:=fun a w f mm=>wpIn_region_lit (h a w f mm)
theorem zf {ops:Array Oper} (h:Post c n Q .normal m O R):RunL (ro:=ro) P ops Q c n [] m O R:=fun a w f mm=>wpListIn_nil (h a w f mm)
def Some' {X:Type} (c:Cx) (n:Sz) (φ:X→Prop) (M:X→Fm) (OO:X→List As) (RR:X→List Fa):Act→World→Prop:=fun a w=>∃x,φ x∧Fr n a (M x)∧Mem c w (OO x) (RR x)
theorem zab {X:Type} (φ:X→Prop) (M:X→Fm) (OO:X→List As) (RR:X→List Fa) {x y:Code}
    (h:RunC (ro:=ro) P (Exit.then (Some' c n φ M OO RR) Q) c n x m O R) (k:∀x,φ x→RunC (ro:=ro) P Q c n y (M x) (OO x) (RR x)):RunC (ro:=ro) P Q c n (.seq x y) m O R:=
  fun a w f mm=>wpIn_seq (wpIn_mono (h a w f mm) (fun e a w q=>by
    cases e <;> first|exact q|(obtain ⟨x,hx,hf,hm⟩:=q;exact k x hx a w hf hm)))
theorem zla {X:Type} {φ:X→Prop} {M:X→Fm} {OO:X→List As} {RR:X→List Fa} (x:X) (hx:φ x) {is js:List Nat} (hm:SubM (M x) m) (ho:pickO is O=some (OO x)) (hr:SelR js R (RR x)):
    Post c n (Exit.then (Some' c n φ M OO RR) Q) .normal m O R:=fun a w f mm=>⟨x,hx,f.sub hm,mm.sel ho hr⟩
def Less {X:Type} (c:Cx) (n:Sz) (φ:X→Prop) (M:X→Fm) (OO:X→List As) (RR:X→List Fa) (μ:X→Nat) (k:Nat):Act→World→Prop:=fun a w=>∃x,μ x<k∧φ x∧Fr n a (M x)∧Mem c w (OO x) (RR x)
theorem zuf {X:Type} (φ:X→Prop) (M:X→Fm) (OO:X→List As) (RR:X→List Fa) (μ:X→Nat) {body:Code} (x:X) (hx:φ x)
    (hm:SubM (M x) m) (hmem:∀w,Mem c w O R→Mem c w (OO x) (RR x))
    (round:∀x,φ x→RunC (ro:=ro) P (Exit.then (Less c n φ M OO RR μ (μ x)) Q) c n body (M x) (OO x) (RR x)):RunC (ro:=ro) P Q c n (.loop body) m O R:=by
  intro a w f mm b kk cs hro hb hr
  have key:∀k x,μ x=k→φ x→∀a w,Fr n a (M x)→Mem c w (OO x) (RR x)→
      ∃e a' w',Q e a' w'∧ArrivesIn (Machine.fenced P (FR ro)) P (lone (b.atR a (.code body :: .inLoop body :: kk)) cs w) b kk cs e a' w':=by
    intro k
    induction k using Nat.strongRecOn with
    |_ k ih=>
      intro x hk hx a w f mm
      obtain ⟨e,a₁,w₁,hq,harr⟩:=round x hx a w f mm b (.inLoop body :: kk) cs hro hb hr
      cases e with
      |normal=>
        obtain ⟨x',hlt,hx',f',mm'⟩:=hq
        obtain ⟨e₂,a₂,w₂,hq₂,harr₂⟩:=ih (μ x') (hk ▸ hlt) x' rfl hx' a₁ w₁ f' mm'
        exact ⟨e₂,a₂,w₂,hq₂,.of_steps (StepsIn.trans harr (.one (fenced_calm hb hr rfl) stepR_inLoop)) harr₂⟩
      |exit id=>exact ⟨_,a₁,w₁,hq,.pass (x:= .inLoop body) rfl (fun _ _=> .inl (by simp)) harr⟩
      |goto l=>exact ⟨_,a₁,w₁,hq,.pass (x:= .inLoop body) rfl (fun _ _=> .inl (by simp)) harr⟩
      |ret=>exact ⟨_,a₁,w₁,hq,.pass (x:= .inLoop body) rfl (fun _ _=> .inl (by simp)) harr⟩
      |panic ch=>exact ⟨_,a₁,w₁,hq,.pass (x:= .inLoop body) rfl (fun _ _=> .inl (by simp)) harr⟩
      |outgrown=>exact ⟨_,a₁,w₁,hq,.pass (x:= .inLoop body) rfl (fun _ _=> .inl (by simp)) harr⟩
  obtain ⟨e,a',w',hq,harr⟩:=key _ x rfl hx a w (f.sub hm) (hmem w mm)
  exact ⟨e,a',w',hq,.of_steps (.one (fenced_calm hb hr rfl) stepR_loop) harr⟩
theorem zca {X:Type} (φ:X→Prop) (M:X→Fm) (OO:X→List As) (RR:X→List Fa) (μ:X→Nat) {body:Code} (x:X) (hx:φ x) {is js:List Nat}
    (hm:SubM (M x) m) (ho:pickO is O=some (OO x)) (hsel:SelR js R (RR x))
    (round:∀x,φ x→RunC (ro:=ro) P (Exit.then (Less c n φ M OO RR μ (μ x)) Q) c n body (M x) (OO x) (RR x)):RunC (ro:=ro) P Q c n (.loop body) m O R:=
  zuf φ M OO RR μ x hx hm (fun w mm=>mm.sel ho hsel) round
theorem zVg {X:Type} {φ:X→Prop} {M:X→Fm} {OO:X→List As} {RR:X→List Fa} {μ:X→Nat} {k:Nat} (x:X) (hx:φ x) (hk:μ x<k)
    (hm:SubM (M x) m) (hmem:∀w,Mem c w O R→Mem c w (OO x) (RR x)):Post c n (Exit.then (Less c n φ M OO RR μ k) Q) .normal m O R:=
  fun a w f mm=>⟨x,hk,hx,f.sub hm,hmem w mm⟩
theorem zV {X:Type} {φ:X→Prop} {M:X→Fm} {OO:X→List As} {RR:X→List Fa} {μ:X→Nat} {k:Nat} (x:X) (hx:φ x) (hk:μ x<k) {is js:List Nat}
    (hm:SubM (M x) m) (ho:pickO is O=some (OO x)) (hr:SelR js R (RR x)):Post c n (Exit.then (Less c n φ M OO RR μ k) Q) .normal m O R:=
  fun a w f mm=>⟨x,hk,hx,f.sub hm,mm.sel ho hr⟩
def Con (P:Program) (f:Nat) (args:List Value) (O:List As) (R:List Fa) {Y:Type} (φ:Y→Prop) (val:Y→Value) (O':Y→List As) (R':Y→List Fa):Prop:=
  ∀w h g,Sep g O h→Holds g R→h.apart g→Has w h→Has w g→Calls P f args.toArray w (fun e w'=>∃y,e= .returned (val y)∧φ y∧Mem ⟨w,h,g⟩ w' (O' y) (R' y))
def Ret {Y:Type} (P:Program) (fn:Func) (c:Cx) (φ:Y→Prop) (val:Y→Value) (O':Y→List As) (R':Y→List Fa):Exit→Act→World→Prop:=
  bodyPost P fn (fun e w'=>∃y,e= .returned (val y)∧φ y∧Mem c w' (O' y) (R' y))
def argM:Nat→List Value→Fm
  |_,[]=>[]
  |k,v :: l=>(k,v) :: argM (k+1) l
theorem argM_lk:∀(l:List Value) (k t:Nat) (v:Value),lk (argM k l) t=some v→k≤t∧l[t - k]? =some v
  |[],_,_,_,e=>by cases e
  |u :: l,k,t,v,e=>by
    simp only [argM,lk] at e
    split at e
    · rename_i hb
      have:k=t:=Nat.eq_of_beq_eq_true hb
      subst this;simpa using e
    · obtain ⟨h1, h2⟩ := argM_lk l (k + 1) t v e
      refine ⟨by omega,?_⟩
      have:t - k=(t - (k+1))+1:=by omega
      rw [this];simpa using h2
theorem zk {f:Nat} {fn:Func} {code:Code} {args:List Value} {Y:Type} {φ:Y→Prop} {val:Y→Value} {O':Y→List As} {R':Y→List Fa}
    {k:Nat} (hf:P.funcs[f]? =some fn) (hb:fn.body=some code) (hn:fn.ntmps=k) (hl:Nat.ble args.length k=true)
    (h:∀c:Cx,RunC (ro:=none) P (Ret P fn c φ val O' R') c ⟨k,[]⟩ code (argM 0 args) O R):Con P f args O R φ val O' R':=by
  intro w hh g s r ap h1 h2
  refine calls_of_wp hf hb (wpIn_wide (n:=0).1 ?_)
  refine h ⟨w,hh,g⟩ _ w ⟨rfl,?_,?_⟩ ⟨hh,g,Mem.start s r ap h1 h2⟩
  · have : args.length ≤ k := Nat.le_of_ble_eq_true hl
    simp [hn];omega
  · intro t v e
    obtain ⟨_,h3⟩:=argM_lk args 0 t v e
    have h3':args[t]? =some v:=by simpa using h3
    have:=(List.getElem?_eq_some_iff.1 h3').1
    simp only [Array.getElem?_append,List.size_toArray,this,if_true]
    simpa using h3'
def resSem (tmps:Array Value):ResultVar→Sem Value
  | .tmp t=>pure (tmps.getD t undef)
  | .cell s t=>do loadVar t (← asAddr (tmps.getD s undef))
theorem results_eq (fn:Func) (tmps:Array Value):results fn tmps=(do let vs ←fn.results.mapM (resSem tmps);pure (if h:vs.size=1 then vs[0] else .tuple vs)):=by
  have e:(fun rv=>resSem tmps rv)=(fun rv=>match rv with| .tmp t=>pure (tmps.getD t undef)| .cell s t=>do loadVar t (← asAddr (tmps.getD s undef)):ResultVar→Sem Value):=by
    funext rv;cases rv <;> rfl
  show _=(do let vs ←fn.results.mapM (fun rv=>resSem tmps rv);pure (if h:vs.size=1 then vs[0] else .tuple vs))
  rw [e];rfl
def ResAt (P:Program) (n:Sz) (m:Fm) (O:List As) (R:List Fa) (rv:ResultVar) (v:Value):Prop:=
  ∀c a w,Fr n a m→Mem c w O R→(resSem a.tmps rv).run P w= .ok v w
theorem zo {t:Nat} {v:Value} (h:lk m t=some v):ResAt P n m O R (.tmp t) v:=fun c a w f mm=>by
  have:=f.tmp t v h
  simp [resSem,Array.getD_eq_getD_getElem?,this]
theorem zx {Y:Type} {n:Nat} {fn:Func} {φ:Y→Prop} {val:Y→Value} {O1:Y→List As} {R1:Y→List Fa} {r1:ResultVar} {v1:Value} (hr:fn.results= #[r1]) (y:Y) (hy:φ y)
    (h1:ResAt P ⟨n,[]⟩ m O R r1 v1) (hv:val y=v1) {is js:List Nat} (ho:pickO is O=some (O1 y)) (hs:SelR js R (R1 y)):Post c ⟨n,[]⟩ (Ret P fn c φ val O1 R1) .ret m O R:=by
  intro a w f mm
  refine ⟨f.defers,v1,?_,y,by rw [hv],hy,mm.sel ho hs⟩
  have e1:=h1 c a w f mm
  simp [results_eq,hr,e1]
theorem zBa {Y:Type} {n:Nat} {fn:Func} {φ:Y→Prop} {val:Y→Value} {O1:Y→List As} {R1:Y→List Fa} {r1 r2:ResultVar} {v1 v2:Value} (hr:fn.results= #[r1,r2]) (y:Y) (hy:φ y)
    (h1:ResAt P ⟨n,[]⟩ m O R r1 v1) (h2:ResAt P ⟨n,[]⟩ m O R r2 v2) (hv:val y= .tuple #[v1,v2]) {is js:List Nat} (ho:pickO is O=some (O1 y)) (hs:SelR js R (R1 y)):Post c ⟨n,[]⟩ (Ret P fn c φ val O1 R1) .ret m O R:=by
  intro a w f mm
  refine ⟨f.defers,.tuple #[v1,v2],?_,y,by rw [hv],hy,mm.sel ho hs⟩
  have e1:=h1 c a w f mm
  have e2:=h2 c a w f mm
  simp [results_eq,hr,e1,e2]
theorem zoc {Y:Type} {n:Nat} {fn:Func} {φ:Y→Prop} {val:Y→Value} {O1:Y→List As} {R1:Y→List Fa} {r1 r2 r3:ResultVar} {v1 v2 v3:Value} (hr:fn.results= #[r1,r2,r3]) (y:Y) (hy:φ y)
    (h1:ResAt P ⟨n,[]⟩ m O R r1 v1) (h2:ResAt P ⟨n,[]⟩ m O R r2 v2) (h3:ResAt P ⟨n,[]⟩ m O R r3 v3) (hv:val y= .tuple #[v1,v2,v3]) {is js:List Nat} (ho:pickO is O=some (O1 y)) (hs:SelR js R (R1 y)):Post c ⟨n,[]⟩ (Ret P fn c φ val O1 R1) .ret m O R:=by
  intro a w f mm
  refine ⟨f.defers,.tuple #[v1,v2,v3],?_,y,by rw [hv],hy,mm.sel ho hs⟩
  have e1:=h1 c a w f mm
  have e2:=h2 c a w f mm
  have e3:=h3 c a w f mm
  simp [results_eq,hr,e1,e2,e3]
theorem zze {Y:Type} {n:Nat} {fn:Func} {φ:Y→Prop} {val:Y→Value} {O1:Y→List As} {R1:Y→List Fa} (hr:fn.results= #[]) (y:Y) (hy:φ y)
    (hv:val y= .tuple #[]) {is js:List Nat} (ho:pickO is O=some (O1 y)) (hs:SelR js R (R1 y)):Post c ⟨n,[]⟩ (Ret P fn c φ val O1 R1) .ret m O R:=by
  intro a w f mm
  refine ⟨f.defers,.tuple #[],?_,y,by rw [hv],hy,mm.sel ho hs⟩
  simp [results_eq,hr]
theorem zkg {Y:Type} {fn:Func} {φ:Y→Prop} {val:Y→Value} {O1:Y→List As} {R1:Y→List Fa} (h:Post c n (Ret P fn c φ val O1 R1) .ret m O R):Post c n (Ret P fn c φ val O1 R1) .normal m O R:=h
end
end Go.Proofs.YtpdbimfnhglhpaaGreat.Sp
namespace Go.Proofs.YtpdbimfnhglhpaaGreat.Sp
open Go
set_option linter.unusedVariables false
theorem Sep.perm {g:Hp} {O O':List As} (p:O.Perm O'):∀{h:Hp},Sep g O h→Sep g O' h:=by
  induction p with
  |nil=>exact fun h=>h
  |cons x _ ih=>rintro h ⟨h1,h2,a,e,x,y⟩;exact ⟨h1,h2,a,e,x,ih y⟩
  |swap x y l=>
    rintro h ⟨h1,h2,a,e,hy,k1,k2,b,e2,hx,hl⟩
    subst e2;subst e
    have a':=Hp.apart_joinR.1 a
    refine ⟨k1,h1.join k2,Hp.apart_joinR.2 ⟨Hp.apart_symm a'.1,b⟩,?_,hx,h1,k2,a'.2,rfl,hy,hl⟩
    rw [← Hp.join_assoc,←Hp.join_assoc,Hp.join_comm a'.1]
  |trans _ _ i1 i2=>exact fun h=>i2 (i1 h)
theorem Mem.perm {c:Cx} {w:World} {O O':List As} {R:List Fa} (p:O.Perm O') (m:Mem c w O R):Mem c w O' R:=by
  obtain ⟨h,g,m⟩:=m
  exact ⟨h,g,Sep.perm p m.sep,m.holds,m.apart,m.hasH,m.hasG,m.le,m.newG,m.newH,m.kept⟩
theorem zfa:∀{O:List As} {i:Nat} {A:As},O[i]? =some A→O.Perm (A :: O.eraseIdx i)
  |[],_,_,h=>by simp at h
  |B :: l,0,A,h=>by simp at h;subst h;exact List.Perm.refl _
  |B :: l,i+1,A,h=>by
    have:=zfa (O:=l) (i:=i) (A:=A) (by simpa using h)
    exact (List.Perm.cons B this).trans (List.Perm.swap A B _)
theorem zHb:∀{O:List As} {i:Nat} {A:As} (A':As),O[i]? =some A→(A' :: O.eraseIdx i).Perm (O.set i A')
  |[],_,_,_,h=>by simp at h
  |B :: l,0,A,A',h=>List.Perm.refl _
  |B :: l,i+1,A,A',h=>by
    have:=zHb (O:=l) (i:=i) (A:=A) A' (by simpa using h)
    exact (List.Perm.swap B A' _).trans (List.Perm.cons B this)
def SetAt (i:Nat) (O:List As) (A:As) (O2:List As):Prop:=O2=O.set i A
theorem SetAt.z {B A:As} {l:List As}:SetAt 0 (B :: l) A (A :: l):=rfl
theorem SetAt.s {i:Nat} {B A:As} {l l2:List As} (h:SetAt i l A l2):SetAt (i+1) (B :: l) A (B :: l2):=by unfold SetAt at *;subst h;rfl
def wnt (ops:Array Oper) (m:Fm) (o:Oper):Option Bool:=
  match o.guard with
  |none=>some true
  |some (j,want)=>match (ops[j]?).bind (·.dst) with
    |some t=>match lk m t with
      |some (.bool b)=>some (b == want)
      |some (.tuple _)=>some false
      |_=>none
    |none=>none
section
variable {P : Program} {Q : Exit → Act → World → Prop} {c : Cx} {n : Sz} {ro : Option Nat} {ops : Array Oper} {l : List Oper} {o : Oper} {m : Fm} {O : List As} {R : List Fa}
theorem Fr.wanted {a:Act} (f:Fr n a m) {b:Bool} (h:wnt ops m o=some b):Region.wanted o (yielded ops a.tmps)=b:=by
  unfold wnt at h
  unfold Region.wanted
  cases hg:o.guard with
  |none=>rw [hg] at h;simpa using h
  |some jw=>
    obtain ⟨j,want⟩:=jw
    rw [hg] at h
    simp only at h ⊢
    cases hd:(ops[j]?).bind (·.dst) with
    |none=>rw [hd] at h;cases h
    |some t=>
      rw [hd] at h
      simp only at h
      cases hl:lk m t with
      |none=>rw [hl] at h;cases h
      |some v=>
        rw [hl] at h
        cases v <;> simp only at h <;> try cases h
        · rename_i b'
          have:=f.tmp t _ hl
          simp only [yielded,hd,Option.bind_some,this] at*
          cases b' <;> cases want <;> rfl
        · have := f.tmp t _ hl
          simp only [yielded,hd,Option.bind_some,this] at*
          cases want <;> rfl
theorem not_defer {ρ:Operand→Value} {w w':World} {v:Value} (h:(execOp ρ o).run P w= .ok (.value v) w'):∀c,o.op≠ .defer c:=by
  intro c hc
  simp only [execOp,hc,Sem.run_bind] at h
  cases hr:(resolve ρ c o.type).run P w <;> rw [hr] at h <;> simp at h
def UponB (P:Program) (o:Oper) (a:Act) (K:Act→World→Prop) (Q:Exit→Act→World→Prop):Result Next→Prop
  | .ok (.value v) w'=>K (a.put o.dst v) w'
  | .ok .skip w'=>K (a.put o.dst undef) w'
  | .ok (.enter f args) w'=>Calls P f args w' fun
      | .returned v,w''=>K (a.put o.dst v) w''
      | .panicked chain,w''=>Q (.panic chain) a w''
      | .outgrown,_=>LetsOut Q
  |_=>False
def WpB (P:Program) (o:Oper) (a:Act) (w:World) (K:Act→World→Prop) (Q:Exit→Act→World→Prop):Prop:=
  (∀c,o.op≠ .defer c)∧UponB P o a K Q ((execOp a.eval o).run P w)
theorem calls_FR {ro:Option Nat} {k:Nat} {f:Nat} {args:Array Value} {w:World} {R:Ending→World→Prop} (h:Calls P f args w R):CallsIn (FR ro) k P f args w R:=by
  cases ro with
  |none=>exact callsIn_wide.2 h
  |some l=>exact CallsIn.inRound l (callsIn_wide.2 h)
theorem WpB.wp {a:Act} {w:World} {K:Act→World→Prop} (h:WpB P o a w K Q):o.wp P a w K Q:=by
  have h2:=h.2
  unfold Oper.wp
  revert h2
  cases (execOp a.eval o).run P w with
  |ok n w'=>cases n <;> first|exact id|exact False.elim
  |_=>exact False.elim
theorem WpB.wpIn {a:Act} {w:World} {K:Act→World→Prop} (h:WpB P o a w K Q):o.wpIn (FR ro) 0 P a w K Q:=by
  refine ⟨fun _ _=>trivial,?_⟩
  rw [Oper.semAt_eq _ _ _ h.1]
  have h2:=h.2
  revert h2
  cases (execOp a.eval o).run P w with
  |ok n w'=>
    cases n with
    |enter f args=>exact fun h=>⟨fun e=>(by cases e),calls_FR h⟩
    |_=>first|exact id|exact False.elim
  |_=>exact False.elim
theorem op_runs {a:Act} {w:World} {K:Act→World→Prop} {r:Result Next} (hnd:∀c,o.op≠ .defer c) (hrun:(execOp a.eval o).run P w=r) (h:UponB P o a K Q r):WpB P o a w K Q:=⟨hnd,by rw [hrun];exact h⟩
theorem op_value {a:Act} {w w':World} {v:Value} {K:Act→World→Prop} (hrun:(execOp a.eval o).run P w= .ok (.value v) w') (h:K (a.put o.dst v) w'):WpB P o a w K Q:=
  op_runs (not_defer hrun) hrun h
theorem g_guard_no (hw:wnt ops m o=some false) (hd:okT n o.dst=true) (k:RunL (ro:=ro) P ops Q c n l (updM m o.dst undef) O R):RunL (ro:=ro) P ops Q c n (o :: l) m O R:=by
  intro a w f mm
  unfold wpListIn
  rw [if_neg (by rw [f.wanted hw];simp)]
  exact ⟨fun _ _=>trivial,k _ w (f.put hd _) mm⟩
def PV (P:Program) (n:Sz) (o:Oper) (m:Fm) (v:Value):Prop:=∀a w,Fr n a m→(execOp a.eval o).run P w= .ok (.value v) w
theorem g_pv (hw:wnt ops m o=some true) (hd:okT n o.dst=true) {v:Value} (h:PV P n o m v) (k:RunL (ro:=ro) P ops Q c n l (updM m o.dst v) O R):RunL (ro:=ro) P ops Q c n (o :: l) m O R:=by
  intro a w f mm
  unfold wpListIn
  rw [if_pos (f.wanted hw)]
  exact (op_value (h a w f) (k _ w (f.put hd _) mm)).wpIn
def Vl (P:Program) (n:Sz) (o:Oper) (m:Fm) (O:List As) (R:List Fa) {Y:Type} (φ:Y→Prop) (val:Y→Value) (R':Y→List Fa):Prop:=
  ∀a,Fr n a m→∀h g,Sep g O h→Holds g R→∃y,φ y∧Holds g (R' y)∧∀w,Has w h→Has w g→(execOp a.eval o).run P w= .ok (.value (val y)) w
theorem g_vl (hw:wnt ops m o=some true) (hd:okT n o.dst=true) {Y:Type} {φ:Y→Prop} {val:Y→Value} {R':Y→List Fa} (h:Vl P n o m O R φ val R')
    (k:∀y,φ y→RunL (ro:=ro) P ops Q c n l (updM m o.dst (val y)) O (R' y++R)):RunL (ro:=ro) P ops Q c n (o :: l) m O R:=by
  intro a w f mm
  obtain ⟨hh,g,mm⟩:=mm
  obtain ⟨y,hy,hr,hrun⟩:=h a f hh g mm.sep mm.holds
  unfold wpListIn
  rw [if_pos (f.wanted hw)]
  refine (op_value (hrun w mm.hasH mm.hasG) ?_).wpIn
  exact k y hy _ w (f.put hd _) ⟨hh,g,mm.sep,Holds.app hr mm.holds,mm.apart,mm.hasH,mm.hasG,mm.le,mm.newG,mm.newH,mm.kept⟩
section
variable {op : Op} {t : Tmp} {ty : TypeId} {ps : String} {af : Array Edge} {gd : Option (Nat × Bool)}
theorem zSe (hw:wnt ops m ⟨some t,op,ty,ps,af,gd⟩=some false) (hd:Nat.ble (t+1) n.sz=true) (k:RunL (ro:=ro) P ops Q c n l ((t,undef) :: m) O R):RunL (ro:=ro) P ops Q c n (⟨some t,op,ty,ps,af,gd⟩ :: l) m O R:=g_guard_no hw hd k
theorem r_pv (hw:wnt ops m ⟨some t,op,ty,ps,af,gd⟩=some true) (hd:Nat.ble (t+1) n.sz=true) {v:Value} (h:PV P n ⟨some t,op,ty,ps,af,gd⟩ m v) (k:RunL (ro:=ro) P ops Q c n l ((t,v) :: m) O R):RunL (ro:=ro) P ops Q c n (⟨some t,op,ty,ps,af,gd⟩ :: l) m O R:=g_pv hw hd h k
theorem r_vl (hw:wnt ops m ⟨some t,op,ty,ps,af,gd⟩=some true) (hd:Nat.ble (t+1) n.sz=true) {Y:Type} {φ:Y→Prop} {val:Y→Value} {R':Y→List Fa} (h:Vl P n ⟨some t,op,ty,ps,af,gd⟩ m O R φ val R')
    (k:∀y,φ y→RunL (ro:=ro) P ops Q c n l ((t,val y) :: m) O (R' y++R)):RunL (ro:=ro) P ops Q c n (⟨some t,op,ty,ps,af,gd⟩ :: l) m O R:=g_vl hw hd h k
end
def Ef (P:Program) (n:Sz) (o:Oper) (m:Fm) (O:List As) (R:List Fa) {Y:Type} (φ:Y→Prop) (val:Y→Value) (O':Y→List As) (R':Y→List Fa):Prop:=
  ∀a,Fr n a m→∀w h g,Sep g O h→Holds g R→h.apart g→Has w h→Has w g→∀(K:Act→World→Prop) (Q:Exit→Act→World→Prop),
    (∀y w',φ y→Mem ⟨w,h,g⟩ w' (O' y) (R' y)→K (a.put o.dst (val y)) w')→WpB P o a w K Q
theorem r_ef {F:List As} (hw:wnt ops m o=some true) (hd:okT n o.dst=true) {Y:Type} {φ:Y→Prop} {val:Y→Value} {O':Y→List As} {R':Y→List Fa} (h:Ef P n o m O R φ val O' R')
    (k:∀y,φ y→RunL (ro:=ro) P ops Q c n l (updM m o.dst (val y)) (O' y++F) (R' y++R)):RunL (ro:=ro) P ops Q c n (o :: l) m (O++F) R:=by
  intro a w f mm
  obtain ⟨hh,g,s,r,ap,h1,h2,hfin⟩:=Mem.framed mm
  unfold wpListIn
  rw [if_pos (f.wanted hw)]
  refine WpB.wpIn (h a f w hh g s r ap h1 h2 _ _ fun y w' hy mm'=>k y hy _ w' (f.put hd _) (hfin w' _ _ mm'))
theorem zma (hw:wnt ops m o=some true) (hd:okT n o.dst=true) {Y:Type} {φ:Y→Prop} {val:Y→Value} {O':Y→List As} {R':Y→List Fa} (h:Ef P n o m [] R φ val O' R')
    (k:∀y,φ y→RunL (ro:=ro) P ops Q c n l (updM m o.dst (val y)) (O' y++O) (R' y++R)):RunL (ro:=ro) P ops Q c n (o :: l) m O R:=r_ef (O:=[]) (F:=O) hw hd h k
theorem zya (i:Nat) {A:As} (hi:O[i]? =some A) (hw:wnt ops m o=some true) (hd:okT n o.dst=true) {Y:Type} {φ:Y→Prop} {val:Y→Value} {A':Y→As} {O2:Y→List As} {R':Y→List Fa}
    (h:Ef P n o m [A] R φ val (fun y=>[A' y]) R') (hs:∀y,SetAt i O (A' y) (O2 y))
    (k:∀y,φ y→RunL (ro:=ro) P ops Q c n l (updM m o.dst (val y)) (O2 y) (R' y++R)):RunL (ro:=ro) P ops Q c n (o :: l) m O R:=by
  intro a w f mm
  have:=r_ef (P:=P) (Q:=Q) (c:=c) (l:=l) (ops:=ops) (O:=[A]) (F:=O.eraseIdx i) hw hd h (fun y hy a w f mm=>by
    have e:=hs y
    unfold SetAt at e
    exact k y hy a w f (by rw [e];exact mm.perm (zHb (A' y) hi)))
  exact this a w f (mm.perm (zfa hi))
theorem zOg {p:Prop} (h:∀g,Holds g R→p) (k:p→RunL (ro:=ro) P ops Q c n l m O R):RunL (ro:=ro) P ops Q c n l m O R:=by
  intro a w f mm
  obtain ⟨hh,g,mm⟩:=mm
  exact k (h g mm.holds) a w f ⟨hh,g,mm⟩
theorem zvf {p:Prop} {x:Code} (h:∀g,Holds g R→p) (k:p→RunC (ro:=ro) P Q c n x m O R):RunC (ro:=ro) P Q c n x m O R:=by
  intro a w f mm
  obtain ⟨hh,g,mm⟩:=mm
  exact k (h g mm.holds) a w f ⟨hh,g,mm⟩
theorem Mem.more {w:World} {X:Type} {φ:X→Prop} {R':X→List Fa} (h:∀g,Holds g R→∃x,φ x∧Holds g (R' x)) (mm:Mem c w O R):∃x,φ x∧Mem c w O (R' x++R):=by
  obtain ⟨hh,g,mm⟩:=mm
  obtain ⟨x,hx,hr⟩:=h g mm.holds
  exact ⟨x,hx,hh,g,mm.sep,Holds.app hr mm.holds,mm.apart,mm.hasH,mm.hasG,mm.le,mm.newG,mm.newH,mm.kept⟩
theorem zUb {X:Type} {φ:X→Prop} {R':X→List Fa} (h:∀g,Holds g R→∃x,φ x∧Holds g (R' x)) (k:∀x,φ x→RunL (ro:=ro) P ops Q c n l m O (R' x++R)):RunL (ro:=ro) P ops Q c n l m O R:=by
  intro a w f mm
  obtain ⟨x,hx,mm'⟩:=Mem.more h mm
  exact k x hx a w f mm'
theorem c_more {x:Code} {X:Type} {φ:X→Prop} {R':X→List Fa} (h:∀g,Holds g R→∃x,φ x∧Holds g (R' x)) (k:∀y,φ y→RunC (ro:=ro) P Q c n x m O (R' y++R)):RunC (ro:=ro) P Q c n x m O R:=by
  intro a w f mm
  obtain ⟨y,hy,mm'⟩:=Mem.more h mm
  exact k y hy a w f mm'
theorem Mem.turn {w:World} (i:Nat) {A:As} (hi:O[i]? =some A) {X:Type} {φ:X→Prop} {A':X→As} {R':X→List Fa}
    (h:∀g h,Holds g R→A.on g h→h.apart g→∃x h' k,φ x∧h=Hp.join h' k∧h'.apart k∧(A' x).on (g.join k) h'∧Holds (g.join k) (R' x)) (mm:Mem c w O R):∃x,φ x∧Mem c w (O.set i (A' x)) (R' x++R):=by
  obtain ⟨hh,g,mm⟩:=mm
  obtain ⟨h1,h2,a,e,hA,hO,put⟩:=Sep.pick i hi mm.sep
  subst e
  have ap:=Hp.apart_join.1 mm.apart
  obtain ⟨x,h',k,hx,e1,a1,hA',hR'⟩:=h g h1 mm.holds hA ap.1
  subst e1
  refine ⟨x,hx,?_⟩
  have a':=Hp.apart_join.1 a
  have g':=Hp.apart_join.1 ap.1
  have hle:g.le (g.join k):=Hp.le_joinL _ _
  have hkg:∀b o,(g.join k) b=some o→g b=some o∨k b=some o:=fun b o e=>by
    unfold Hp.join at e
    cases eg:g b with
    |some v=>rw [eg] at e;exact .inl e
    |none=>rw [eg] at e;exact .inr e
  have hkh:∀b o,k b=some o→((h'.join k).join h2) b=some o:=fun b o e=>Hp.le_joinL _ _ _ _ (Hp.le_joinR a1 _ _ e)
  have put':Sep (g.join k) (O.set i (A' x)) (h'.join h2):=by
    obtain ⟨_,_,_,_,_,_,put2⟩:=Sep.pick i hi (Sep.mono hle mm.sep)
    have hsp:Sep (g.join k) (A' x :: O.eraseIdx i) (h'.join h2):=⟨h',h2,a'.1,rfl,hA',Sep.mono hle hO⟩
    exact Sep.perm (zHb (A' x) hi) hsp
  refine ⟨h'.join h2,g.join k,put',Holds.app hR' (Holds.mono hle mm.holds),?_,?_,?_,Hp.le_trans mm.le hle,?_,?_,mm.kept⟩
  · exact Hp.apart_join.2 ⟨Hp.apart_joinR.2 ⟨g'.1,a1⟩,Hp.apart_joinR.2 ⟨ap.2,Hp.apart_symm a'.2⟩⟩
  · exact Has.mono mm.hasH (Hp.join_le (Hp.le_trans (Hp.le_joinL h' k) (Hp.le_joinL _ _)) (Hp.le_joinR a))
  · intro b o e
    rcases hkg b o e with y|y
    · exact mm.hasG _ _ y
    · exact mm.hasH _ _ (hkh _ _ y)
  · intro b e nn
    cases y:(g.join k) b with
    |none=>exact absurd y nn
    |some o=>
      rcases hkg b o y with z|z
      · exact mm.newG b e (by rw [z];simp)
      · by_cases d : c.D b = none
        · exact .inl (mm.newH b d (by rw [hkh _ _ z];simp))
        · exact .inr d
  · intro b e nn
    refine mm.newH b e (fun y=>nn ?_)
    have:=Hp.join_none.1 y
    exact Hp.join_none.2 ⟨(Hp.join_none.1 this.1).1,this.2⟩
end
theorem zwd {P : Program} {f : Nat} {fn : Func} {code : Code} (hf : P.funcs[f]? = some fn) (hb : fn.body = some code) (hn : (fn.name == "runtime.NumGoroutine") = false) (args : Array Value) (w : World) :
    (callFunc f args).run P w= .ok (.enter f args) w:=by
  have hn' : ¬ fn.name = "runtime.NumGoroutine" := by simpa using hn
  simp [callFunc,hf,hn',hb]
section
variable {P : Program} {Q : Exit → Act → World → Prop} {c : Cx} {n : Sz} {ro : Option Nat} {ops : Array Oper} {l : List Oper} {m : Fm} {O : List As} {R : List Fa}
def evs (m:Fm):List Operand→List Value→Prop
  |[],[]=>True
  |x :: xs,v :: vs=>evo m x=some v∧evs m xs vs
  |_,_=>False
theorem evs.map {a:Act} (f:Fr n a m):∀{xs:List Operand} {vs:List Value},evs m xs vs→xs.map a.eval=vs
  |[],[],_=>rfl
  |x :: xs,v :: vs,⟨h1,h2⟩=>by simp [f.ev h1,evs.map f h2]
structure CanEnter (P:Program) (f:Nat):Prop where
  go:∀args w,(callFunc f args).run P w= .ok (.enter f args) w
theorem canEnter {f : Nat} {fn : Func} {code : Code} (hf : P.funcs[f]? = some fn) (hb : fn.body = some code) (hn : (fn.name == "runtime.NumGoroutine") = false) : CanEnter P f :=
  ⟨fun args w=>zwd hf hb hn args w⟩
theorem zCc {d:Option Tmp} {fo:Operand} {xs:List Operand} {ats:Array TypeId} {ty:TypeId} {ps:String} {af:Array Edge} {gd:Option (Nat×Bool)} {f:Nat} {first cap vs:List Value}
    (hf:evo m fo=some (.func (.func f) first.toArray cap.toArray)) (hx:evs m xs vs) (hc:CanEnter P f) {Y:Type} {φ:Y→Prop} {val:Y→Value} {O':Y→List As} {R':Y→List Fa}
    (h:Con P f (first++vs++cap) O R φ val O' R'):Ef P n ⟨d,.call ⟨.value fo,xs.toArray,ats⟩,ty,ps,af,gd⟩ m O R φ val O' R':=by
  intro a fr w hh g s r ap h1 h2 K Q hK
  have e1:a.eval fo=_:=fr.ev hf
  have e2:xs.toArray.map a.eval=vs.toArray:=by rw [List.map_toArray,evs.map fr hx]
  have hrun:(execOp a.eval ⟨d,.call ⟨.value fo,xs.toArray,ats⟩,ty,ps,af,gd⟩).run P w= .ok (.enter f (first++vs++cap).toArray) w:=by
    simp only [execOp,resolve,e1,e2,Deferred.ofValue,Sem.run_bind,Sem.run_pure,Result.andThen_ok,invoke]
    have:=hc.go ((first.toArray++vs.toArray)++cap.toArray) w
    simpa using this
  refine op_runs (fun c e=>by cases e) hrun ?_
  exact ((h w hh g s r ap h1 h2).mono fun e w' ⟨y,he,hy,hm⟩=>by subst he;exact hK y w' hy hm)
end
end Go.Proofs.YtpdbimfnhglhpaaGreat.Sp
namespace Go.Proofs.YtpdbimfnhglhpaaGreat.Sp
open Go
set_option linter.unusedVariables false
def aggD:TypeDesc→Bool
  | .struct _| .array _ _=>true
  |_=>false
structure Ty (P:Program) (t:TypeId) (n:Nat) (agg:Bool):Prop where
  size:(P.info? t).map (·.size)=some n
  agg:(P.underlying t).map aggD=some agg
def Zero (P:Program) (t:TypeId) (z:Value):Prop:=(P.info? t).bind (·.zero)=some z
section
variable {P : Program} {w : World} {t : TypeId} {n : Nat} {agg : Bool}
theorem zCa (h:(P.info? t).map (·.size)=some n):(sizeOf t).run P w= .ok n w:=by
  cases e:P.info? t with
  |none=>rw [e] at h;cases h
  |some i=>rw [e] at h;simp at h;simp [sizeOf,typeInfo,e,h]
theorem Ty.run_size (h:Ty P t n agg):(sizeOf t).run P w= .ok n w:=zCa h.size
theorem Ty.run_agg (h:Ty P t n agg):(isAgg t).run P w= .ok agg w:=by
  cases e:P.underlying t with
  |none=>have:=h.agg;rw [e] at this;cases this
  |some d=>
    have h2:=h.agg
    rw [e] at h2
    simp at h2
    simp only [isAgg,Sem.run_bind,run_underlying e,Result.andThen_ok]
    cases d <;> simp [aggD] at h2 <;> subst h2 <;> rfl
theorem zFb {z:Value} (h:Zero P t z):(zeroValue t).run P w= .ok z w:=by
  unfold Zero at h
  cases e:P.info? t with
  |none=>rw [e] at h;cases h
  |some i=>
    rw [e] at h
    simp at h
    simp [zeroValue,typeInfo,e,h]
end
section
variable {P : Program} {Q : Exit → Act → World → Prop} {c : Cx} {n : Sz} {ro : Option Nat} {ops : Array Oper} {l : List Oper} {m : Fm} {O : List As} {R : List Fa}
variable {d : Option Tmp} {ty : TypeId} {ps : String} {af : Array Edge} {gd : Option (Nat × Bool)}
theorem zja {x:Operand} {v:Value} (h:evo m x=some v):PV P n ⟨d,.move x,ty,ps,af,gd⟩ m v:=fun a w f=>by
  simp [execOp,f.ev h]
theorem zb {x:Operand} {v:Value} (h:evo m x=some v):PV P n ⟨d,.assign x,ty,ps,af,gd⟩ m v:=fun a w f=>by
  simp [execOp,f.ev h]
theorem zE {x y z:Operand} {b:Bool} {v:Value} (h:evo m x=some (.bool b)) (h1:evo m (if b then y else z)=some v):PV P n ⟨d,.pick x y z,ty,ps,af,gd⟩ m v:=fun a w f=>by
  have e:=f.ev h
  have e1:=f.ev h1
  cases b <;> simp at e1 <;> simp [execOp,e,e1,asBool]
theorem zn {x:Operand} {i:Nat} {vs:List Value} {v:Value} (h:evo m x=some (.tuple vs.toArray)) (hi:vs[i]? =some v):PV P n ⟨d,.extract x i,ty,ps,af,gd⟩ m v:=fun a w f=>by
  simp [execOp,f.ev h,Instr.extract,hi]
theorem zEa {fn:Fn} {fs cs:List Operand} {vf vc:List Value} (h1:evs m fs vf) (h2:evs m cs vc):PV P n ⟨d,.makeFunc fn fs.toArray cs.toArray,ty,ps,af,gd⟩ m (.func fn vf.toArray vc.toArray):=fun a w f=>by
  simp [execOp,Instr.makeFunc,evs.map f h1,evs.map f h2]
section
variable {t t2 : TypeId} {x y : Operand} {k : IntKind} {a b z : Int}
theorem zJ (h1:evo m x=some (.int k a)) (h2:evo m y=some (.int k b)) (hz:k.wrap (a+b)=z):PV P n ⟨d,.binOp .add t x y t2,ty,ps,af,gd⟩ m (.int k z):=fun ac w f=>by
  simp [execOp,f.ev h1,f.ev h2,eqGuard_at_int,binOp_add,Op.intArith,hz]
theorem zha (h1:evo m x=some (.int k a)) (h2:evo m y=some (.int k b)) (hz:k.wrap (a - b)=z):PV P n ⟨d,.binOp .sub t x y t2,ty,ps,af,gd⟩ m (.int k z):=fun ac w f=>by
  simp [execOp,f.ev h1,f.ev h2,eqGuard_at_int,binOp_sub,Op.intArith,hz]
theorem zob (h1:evo m x=some (.int k a)) (h2:evo m y=some (.int k b)) (hz:k.wrap (a*b)=z):PV P n ⟨d,.binOp .mul t x y t2,ty,ps,af,gd⟩ m (.int k z):=fun ac w f=>by
  simp [execOp,f.ev h1,f.ev h2,eqGuard_at_int,binOp_mul,Op.intArith,hz]
theorem zfb (h1:evo m x=some (.int k a)) (h2:evo m y=some (.int k b)) (hb:b≠0) (hz:k.wrap (a.tdiv b)=z):PV P n ⟨d,.binOp .quo t x y t2,ty,ps,af,gd⟩ m (.int k z):=fun ac w f=>by
  simp [execOp,f.ev h1,f.ev h2,eqGuard_at_int,binOp_quo,Op.intDiv,hb,hz]
theorem zbb (h1:evo m x=some (.int k a)) (h2:evo m y=some (.int k b)) (hb:b≠0) (hz:a.tmod b=z):PV P n ⟨d,.binOp .rem t x y t2,ty,ps,af,gd⟩ m (.int k z):=fun ac w f=>by
  simp [execOp,f.ev h1,f.ev h2,eqGuard_at_int,binOp_rem,Op.intDiv,hb,hz]
theorem zY (h1:evo m x=some (.int k a)) (h2:evo m y=some (.int k b)):PV P n ⟨d,.binOp .lss t x y t2,ty,ps,af,gd⟩ m (.bool (decide (a<b))):=fun ac w f=>by
  simp [execOp,f.ev h1,f.ev h2,eqGuard_at_int,binOp_lss]
theorem zpc (h1:evo m x=some (.int k a)) (h2:evo m y=some (.int k b)):PV P n ⟨d,.binOp .leq t x y t2,ty,ps,af,gd⟩ m (.bool (decide (a≤b))):=fun ac w f=>by
  simp [execOp,f.ev h1,f.ev h2,eqGuard_at_int,binOp_leq]
theorem zra (h1:evo m x=some (.int k a)) (h2:evo m y=some (.int k b)):PV P n ⟨d,.binOp .gtr t x y t2,ty,ps,af,gd⟩ m (.bool (decide (b<a))):=fun ac w f=>by
  simp [execOp,f.ev h1,f.ev h2,eqGuard_at_int,binOp_gtr]
theorem zTa (h1:evo m x=some (.int k a)) (h2:evo m y=some (.int k b)):PV P n ⟨d,.binOp .geq t x y t2,ty,ps,af,gd⟩ m (.bool (decide (b≤a))):=fun ac w f=>by
  simp [execOp,f.ev h1,f.ev h2,eqGuard_at_int,binOp_geq]
theorem zna (h1:evo m x=some (.int k a)) (h2:evo m y=some (.int k b)):PV P n ⟨d,.binOp .eql t x y t2,ty,ps,af,gd⟩ m (.bool (decide (a=b))):=fun ac w f=>by
  have:(a == b)=decide (a=b):=by by_cases h:a=b <;> simp [h]
  simp [execOp,f.ev h1,f.ev h2,eqGuard_at_int,binOp_eql,this]
theorem zxa (h1:evo m x=some (.int k a)) (h2:evo m y=some (.int k b)):PV P n ⟨d,.binOp .neq t x y t2,ty,ps,af,gd⟩ m (.bool (decide (a≠b))):=fun ac w f=>by
  have:(a != b)=decide (a≠b):=by by_cases h:a=b <;> simp [h]
  simp [execOp,f.ev h1,f.ev h2,eqGuard_at_int,binOp_neq,this]
theorem zAe (h1:evo m x=some (.int k a)) (hz:k.wrap (0 - a)=z):PV P n ⟨d,.unOp .neg t x,ty,ps,af,gd⟩ m (.int k z):=fun ac w f=>by
  simp only [execOp,f.ev h1,Op.unary,Op.intArith,hz,Sem.run_bind,Sem.run_pure,Result.andThen_ok]
theorem zH {k':IntKind} {dst:TypeId} (h1:evo m x=some (.int k a)) (hs:(P.underlying t).isSome=true) (hd:P.underlying dst=some (.int k')) (hz:k'.wrap a=z):PV P n ⟨d,.convert t dst x,ty,ps,af,gd⟩ m (.int k' z):=fun ac w f=>by
  cases hs':P.underlying t with
  |none=>rw [hs'] at hs;cases hs
  |some u=>
    simp only [execOp,f.ev h1,convert,Sem.run_bind,run_underlying hs',run_underlying hd,Result.andThen_ok,Conv.intToInt,hz,Sem.run_pure]
end
theorem zUa {t:TypeId} {x:Operand} {b:Bool} (h:evo m x=some (.bool b)):PV P n ⟨d,.unOp .not t x,ty,ps,af,gd⟩ m (.bool (!b)):=fun a w f=>by
  simp [execOp,f.ev h,Op.unary]
theorem zPb {t:TypeId} {x:Operand} {p:Prop} [Decidable p] (h:evo m x=some (.bool (decide p))):PV P n ⟨d,.unOp .not t x,ty,ps,af,gd⟩ m (.bool (decide (¬p))):=fun a w f=>by
  have:=zUa (P:=P) (n:=n) (d:=d) (ty:=ty) (ps:=ps) (af:=af) (gd:=gd) (t:=t) h a w f
  rw [this];simp
theorem zNb {t:TypeId} {a b:Bool} {w:World} (hu:P.underlying t=some .bool):(Op.equal t (.bool a) (.bool b)).run P w= .ok (a == b) w:=by
  have:∀d,(Op.equalIn (d+1) t (.bool a) (.bool b)).run P w= .ok (a == b) w:=fun d=>by
    rw [Op.equalIn];simp only [Sem.run_bind,run_underlying hu,Result.andThen_ok,Sem.run_pure]
  exact this 9999
theorem binOp_bool_eql {t:TypeId} {a b:Bool}:binOp .eql t (.bool a) (.bool b)=(do pure (.bool (← Op.equal t (.bool a) (.bool b)))):=rfl
theorem binOp_bool_neq {t:TypeId} {a b:Bool}:binOp .neq t (.bool a) (.bool b)=(do pure (.bool (!(← Op.equal t (.bool a) (.bool b))))):=rfl
theorem zDc {t t2:TypeId} {x y:Operand} {a b:Bool} (hu:P.underlying t=some .bool) (h1:evo m x=some (.bool a)) (h2:evo m y=some (.bool b)):PV P n ⟨d,.binOp .eql t x y t2,ty,ps,af,gd⟩ m (.bool (decide (a=b))):=fun ac w f=>by
  have e:(a == b)=decide (a=b):=by cases a <;> cases b <;> rfl
  simp only [execOp,f.ev h1,f.ev h2,eqGuard_at_bool,binOp_bool_eql,Sem.run_bind,Sem.run_pure,Result.andThen_ok,zNb hu,e]
theorem zNa {t t2:TypeId} {x y:Operand} {a b:Bool} (hu:P.underlying t=some .bool) (h1:evo m x=some (.bool a)) (h2:evo m y=some (.bool b)):PV P n ⟨d,.binOp .neq t x y t2,ty,ps,af,gd⟩ m (.bool (decide (a≠b))):=fun ac w f=>by
  have e:(!(a == b))=decide (a≠b):=by cases a <;> cases b <;> rfl
  simp only [execOp,f.ev h1,f.ev h2,eqGuard_at_bool,binOp_bool_neq,Sem.run_bind,Sem.run_pure,Result.andThen_ok,zNb hu,e]
theorem pv_min {x y:Operand} {ats:Array TypeId} {k:IntKind} {a b:Int} (h1:evo m x=some (.int k a)) (h2:evo m y=some (.int k b)):PV P n ⟨d,.call ⟨.builtin .min,#[x,y],ats⟩,ty,ps,af,gd⟩ m (.int k (min a b)):=fun ac w f=>by
  have:(if b<a then b else a)=min a b:=by by_cases h:b<a <;> simp [h,Int.min_def] <;> omega
  simp [execOp,resolve,invoke,builtin,Builtin.min_,Builtin.min2,f.ev h1,f.ev h2,this]
theorem zBe {x y:Operand} {ats:Array TypeId} {k:IntKind} {a b:Int} (h1:evo m x=some (.int k a)) (h2:evo m y=some (.int k b)):PV P n ⟨d,.call ⟨.builtin .max,#[x,y],ats⟩,ty,ps,af,gd⟩ m (.int k (max a b)):=fun ac w f=>by
  have:(if a<b then b else a)=max a b:=by by_cases h:a<b <;> simp [h,Int.max_def] <;> omega
  simp [execOp,resolve,invoke,builtin,Builtin.max_,Builtin.max2,f.ev h1,f.ev h2,this]
theorem zv {t e:TypeId} {x:Operand} {p:Option Addr} {k cap:Nat} (hu:P.underlying t=some (.slice e)) (h:evo m x=some (.slice p k cap)):PV P n ⟨d,.call ⟨.builtin .len,#[x],#[t]⟩,ty,ps,af,gd⟩ m (.int .i64 k):=fun a w f=>by
  simp [execOp,resolve,invoke,builtin,Builtin.len_,f.ev h,run_underlying hu,goInt]
def Slc (cells:List Value) (off k:Nat) (cs:List Value):Prop:=cs.length=k∧∀j v,cs[j]? =some v→cells[off+j]? =some v
theorem Slc.nil {cells:List Value}:Slc cells 0 0 []:=⟨rfl,fun j v h=>by simp at h⟩
theorem Slc.take {cells:List Value} {k:Nat} {cs:List Value} {u:Value} (h:Slc cells 0 k cs):Slc (u :: cells) 0 (k+1) (u :: cs):=
  ⟨by simp [h.1],fun j v e=>by
    cases j with
    |zero=>simpa using e
    |succ j=>have:=h.2 j v (by simpa using e);simpa using this⟩
theorem Slc.skip {cells:List Value} {off k:Nat} {cs:List Value} {u:Value} (h:Slc cells off k cs):Slc (u :: cells) (off+1) k cs:=
  ⟨h.1,fun j v e=>by have:=h.2 j v e;rw [show off+1+j=(off+j)+1 by omega];simpa using this⟩
theorem Slc.eq {cells:List Value} {off k:Nat} {cs:List Value} (h:Slc cells off k cs):(cells.drop off).take k=cs:=by
  apply List.ext_getElem?
  intro j
  rw [List.getElem?_take]
  split
  · rename_i hj
    have hj':j<cs.length:=by rw [h.1];exact hj
    rw [List.getElem?_drop,h.2 j cs[j] (List.getElem?_eq_getElem hj'),List.getElem?_eq_getElem hj']
  · rename_i hj
    rw [List.getElem?_eq_none (by rw [h.1];omega)]
theorem zxd {t:TypeId} {k:Nat} {w:World} (ht:Ty P t k true) {cells cs:List Value} {off:Nat} (h:Slc cells off k cs):(part t cells.toArray off).run P w= .ok (.agg cs.toArray) w:=by
  simp only [part,Sem.run_bind,ht.run_agg,ht.run_size,Result.andThen_ok,if_true,Sem.run_pure]
  congr 2
  apply Array.ext'
  rw [Array.toList_extract]
  simp only [List.toList_toArray]
  rw [← h.eq]
  simp [List.extract]
theorem zyd {t:TypeId} {k:Nat} {w:World} (ht:Ty P t k false) {cells:List Value} {off:Nat} {v:Value} (h:cells[off]? =some v):(part t cells.toArray off).run P w= .ok v w:=by
  simp only [part,Sem.run_bind,ht.run_agg,Result.andThen_ok]
  simp [h]
theorem zqc {s:TypeId} {x:Operand} {fi:Nat} {fs:Array Field} {fd:Field} {k:Nat} {cells cs:List Value} (hu:P.underlying s=some (.struct fs)) (hf:fs[fi]? =some fd) (ht:Ty P fd.type k true)
    (h:evo m x=some (.agg cells.toArray)) (hc:Slc cells fd.offset k cs):PV P n ⟨d,.field s x fi,ty,ps,af,gd⟩ m (.agg cs.toArray):=fun a w f=>by
  simp [execOp,Instr.field,run_underlying hu,hf,f.ev h,asAgg,zxd ht hc]
theorem zAa {s:TypeId} {x:Operand} {fi:Nat} {fs:Array Field} {fd:Field} {k:Nat} {cells:List Value} {v:Value} (hu:P.underlying s=some (.struct fs)) (hf:fs[fi]? =some fd) (ht:Ty P fd.type k false)
    (h:evo m x=some (.agg cells.toArray)) (hc:cells[fd.offset]? =some v):PV P n ⟨d,.field s x fi,ty,ps,af,gd⟩ m v:=fun a w f=>by
  simp [execOp,Instr.field,run_underlying hu,hf,f.ev h,asAgg,zyd ht hc]
theorem zj {s:TypeId} {x:Operand} {fi b o o' k:Nat} {fs:Array Field} {fd:Field} (hu:P.underlying s=some (.struct fs)) (hf:fs[fi]? =some fd) (ht:(P.info? fd.type).map (·.size)=some (k+1))
    (h:evo m x=some (.pointer (some ⟨b,o,none⟩))) (ho:o+fd.offset=o'):PV P n ⟨d,.fieldAddr s x fi,ty,ps,af,gd⟩ m (.pointer (some ⟨b,o',none⟩)):=fun a w f=>by
  simp [execOp,Instr.fieldAt,run_underlying hu,hf,f.ev h,Instr.sureAddr,fieldPlace,zCa ht,Addr.add_lit,ho]
def Upd (cells:List Value) (off:Nat) (news cells':List Value):Prop:=off+news.length≤cells.length∧cells'=cells.take off++news++cells.drop (off+news.length)
theorem Upd.nil {cells:List Value}:Upd cells 0 [] cells:=⟨by simp,by simp⟩
theorem Upd.take {cells news cells':List Value} {u v:Value} (h:Upd cells 0 news cells'):Upd (u :: cells) 0 (v :: news) (v :: cells'):=
  ⟨by have:=h.1;simp at *;omega,by have:=h.2;simp at *;exact this⟩
theorem Upd.skip {cells news cells':List Value} {off:Nat} {u:Value} (h:Upd cells off news cells'):Upd (u :: cells) (off+1) news (u :: cells'):=
  ⟨by have:=h.1;simp at *;omega,by
    have:=h.2
    rw [this,show off+1+news.length=(off+news.length)+1 by omega]
    simp⟩
end
end Go.Proofs.YtpdbimfnhglhpaaGreat.Sp
namespace Go.Proofs.YtpdbimfnhglhpaaGreat.Sp
open Go
set_option linter.unusedVariables false
theorem mem_new {w:World} {g:Hp} {o:Obj} (h1:Has w Hp.emp) (hg:Has w g) {A:As} (hA:A.on g (Hp.single w.heap.size o)):Mem ⟨w,Hp.emp,g⟩ (w.alloc o) [A] []:=by
  have hgn:g w.heap.size=none:=by
    cases e:g w.heap.size with
    |none=>rfl
    |some x=>have:=hg.lt (b:=w.heap.size) (by rw [e];simp);omega
  refine ⟨Hp.single w.heap.size o,g,⟨_,Hp.emp,fun _=> .inr rfl,(Hp.join_emp _).symm,hA,rfl⟩,trivial,?_,?_,?_,Hp.le_refl _,?_,?_,?_⟩
  · intro b
    by_cases hb:b=w.heap.size
    · subst hb;exact .inr hgn
    · exact .inl (by simp [Hp.single,hb])
  · intro b x e
    unfold Hp.single at e
    split at e
    · rename_i hb;subst hb;cases e;exact heap_alloc_new w _
    · cases e
  · intro b x e
    have hlt:=hg.lt (b:=b) (by rw [e];simp)
    rw [heap_alloc_old w o hlt];exact hg _ _ e
  · intro b e n;exact absurd e n
  · intro b e n
    unfold Hp.single at n
    split at n
    · rename_i hb;subst hb;exact Nat.le_refl _
    · exact absurd rfl n
  · exact ⟨rfl,rfl,rfl,by simp,fun b hb _=>heap_alloc_old w o hb⟩
theorem mem_drew {w w':World} {D G:Hp} {O:List As} {R:List Fa} (m:Mem ⟨w.drew,D,G⟩ w' O R):Mem ⟨w,D,G⟩ w' O R:=by
  obtain ⟨h,g,m⟩:=m
  exact ⟨h,g,m.sep,m.holds,m.apart,m.hasH,m.hasG,m.le,m.newG,m.newH,⟨m.kept.os,m.kept.tape,m.kept.output,m.kept.size,m.kept.block⟩⟩
theorem mem_put {w w':World} {g:Hp} {b:Nat} {o o':Obj} (ha:(Hp.single b o).apart g) (hh:Has w (Hp.single b o)) (hg:Has w g) {A:As} (hA:A.on g (Hp.single b o'))
    (h0:w'.heap[b]? =some o') (h1:∀k,k≠b→w'.heap[k]? =w.heap[k]?) (h2:w'.heap.size=w.heap.size) (h3:w'.os=w.os) (h4:w'.tape=w.tape) (h5:w'.output=w.output):Mem ⟨w,Hp.single b o,g⟩ w' [A] []:=by
  have hgb:g b=none:=by
    rcases ha b with x|x
    · rw [Hp.single_self] at x;cases x
    · exact x
  refine ⟨Hp.single b o',g,⟨_,Hp.emp,fun _=> .inr rfl,(Hp.join_emp _).symm,hA,rfl⟩,trivial,?_,?_,?_,Hp.le_refl _,?_,?_,?_⟩
  · intro k
    by_cases hk:k=b
    · subst hk;exact .inr hgb
    · exact .inl (by simp [Hp.single,hk])
  · intro k x e
    unfold Hp.single at e
    split at e
    · rename_i hk;subst hk;cases e;exact h0
    · cases e
  · intro k x e
    have hk:k≠b:=fun hk=>by subst hk;rw [hgb] at e;cases e
    rw [h1 k hk];exact hg _ _ e
  · intro k e n;exact absurd e n
  · intro k e n
    unfold Hp.single at n
    split at n
    · rename_i hk;subst hk;simp only at e;rw [Hp.single_self] at e;cases e
    · exact absurd rfl n
  · refine ⟨h3, h4, h5, by simp only; omega, fun k _ e => ?_⟩
    by_cases hk:k=b
    · subst hk;simp only at e;rw [Hp.single_self] at e;cases e
    · exact h1 k hk
def boxA (b:Nat) (T:TypeId) (cells:List Value):As:=⟨fun _ h=>h=Hp.single b (.cells cells.toArray T (0,0)),fun _ _ _ _ h=>h⟩
def emA:As:=⟨fun _ h=>h=Hp.emp,fun _ _ _ _ h=>h⟩
def AtP (g:Hp) (b o:Nat) (cs:List Value):Prop:=∃cells T fz,g b=some (.cells cells T fz)∧∀j v,cs[j]? =some v→cells[o+j]? =some v
theorem AtP.mono {g g':Hp} (l:g.le g') {b o:Nat} {cs:List Value}:AtP g b o cs→AtP g' b o cs:=fun ⟨cells,T,fz,e,h⟩=>⟨cells,T,fz,l _ _ e,h⟩
def atF (b o:Nat) (cs:List Value):Fa:=⟨fun g=>AtP g b o cs,fun _ _ l h=>h.mono l⟩
theorem AtP.cell {g:Hp} {w:World} (hg:Has w g) {b o:Nat} {cs:List Value} (h:AtP g b o cs):∀j v,cs[j]? =some v→w.cell? ⟨b,o+j,none⟩=some v:=by
  obtain ⟨cells,T,fz,e,hc⟩:=h
  intro j v hv
  have:=hg _ _ e
  simp [World.cell?,this,hc j v hv]
theorem zcb {P:Program} {w:World} {t:TypeId} {k:Nat} (ht:Ty P t k true) {b o:Nat} {cs:List Value} (hl:cs.length=k) (h:∀j v,cs[j]? =some v→w.cell? ⟨b,o+j,none⟩=some v):
    (loadVar t ⟨b,o,none⟩).run P w= .ok (.agg cs.toArray) w:=by
  subst hl
  have:=run_loadCells_list (P:=P) (w:=w) ⟨b,o,none⟩ cs (fun j v e=>by rw [Addr.add_lit];exact h j v e)
  simp [loadVar,ht.run_agg,ht.run_size,this]
theorem zdb {P:Program} {w:World} {t:TypeId} {k:Nat} (ht:Ty P t k false) {b o:Nat} {v:Value} (h:w.cell? ⟨b,o,none⟩=some v):
    (loadVar t ⟨b,o,none⟩).run P w= .ok v w:=by
  simp [loadVar,ht.run_agg,h]
theorem box_cell {g hh h1:Hp} {w:World} {b:Nat} {T:TypeId} {cells:List Value} (hw:Has w hh) (l:h1.le hh) (hb:(boxA b T cells).on g h1):∀j v,cells[j]? =some v→w.cell? ⟨b,j,none⟩=some v:=by
  intro j v e
  have hb':h1=Hp.single b (.cells cells.toArray T (0,0)):=hb
  subst hb'
  have:=hw _ _ (l _ _ (Hp.single_self _ _))
  simp [World.cell?,this,e]
section
variable {P : Program} {Q : Exit → Act → World → Prop} {c : Cx} {n : Sz} {ro : Option Nat} {ops : Array Oper} {l : List Oper} {m : Fm} {O : List As} {R : List Fa}
variable {d : Option Tmp} {ty : TypeId} {ps : String} {af : Array Edge} {gd : Option (Nat × Bool)}
theorem zd {t:TypeId} {x:Operand} (i:Nat) {b off k:Nat} {T:TypeId} {cells cs:List Value} (ht:Ty P t k true) (h:evo m x=some (.pointer (some ⟨b,off,none⟩))) (hi:O[i]? =some (boxA b T cells)) (hs:Slc cells off k cs):
    Vl P n ⟨d,.load t x,ty,ps,af,gd⟩ m O R (Y:=Unit) (fun _=>True) (fun _=> .agg cs.toArray) (fun _=>[]):=fun a f hh g s r=>by
  obtain ⟨h1,h2,ap,e,hb,_,_⟩:=Sep.pick i hi s
  refine ⟨(),trivial,trivial,fun w hw hg=> ?_⟩
  have hc:=box_cell hw (by rw [e];exact Hp.le_joinL _ _) hb
  have:=zcb (P:=P) (w:=w) (b:=b) (o:=off) ht hs.1 (fun j v e=>hc _ _ (hs.2 j v e))
  simp [execOp,Instr.loadAt,Instr.sureAddr,f.ev h,this]
theorem zi {t:TypeId} {x:Operand} (i:Nat) {b off k:Nat} {T:TypeId} {cells:List Value} {v:Value} (ht:Ty P t k false) (h:evo m x=some (.pointer (some ⟨b,off,none⟩))) (hi:O[i]? =some (boxA b T cells)) (hs:cells[off]? =some v):
    Vl P n ⟨d,.load t x,ty,ps,af,gd⟩ m O R (Y:=Unit) (fun _=>True) (fun _=>v) (fun _=>[]):=fun a f hh g s r=>by
  obtain ⟨h1,h2,ap,e,hb,_,_⟩:=Sep.pick i hi s
  refine ⟨(),trivial,trivial,fun w hw hg=> ?_⟩
  have hc:=box_cell hw (by rw [e];exact Hp.le_joinL _ _) hb
  have:=zdb (P:=P) (w:=w) (b:=b) (o:=off) ht (hc _ _ hs)
  simp [execOp,Instr.loadAt,Instr.sureAddr,f.ev h,this]
theorem zO {t:TypeId} {x:Operand} (i:Nat) {b off o j k:Nat} {cells cs:List Value} (ht:Ty P t k true) (h:evo m x=some (.pointer (some ⟨b,off,none⟩))) (hi:R[i]? =some (atF b o cells)) (ho:off=o+j) (hs:Slc cells j k cs):
    Vl P n ⟨d,.load t x,ty,ps,af,gd⟩ m O R (Y:=Unit) (fun _=>True) (fun _=> .agg cs.toArray) (fun _=>[]):=fun a f hh g s r=>by
  have hat:AtP g b o cells:=Holds.get i hi r
  refine ⟨(),trivial,trivial,fun w hw hg=> ?_⟩
  have hc:=hat.cell hg
  have:=zcb (P:=P) (w:=w) (b:=b) (o:=off) ht hs.1 (fun q v e=>by rw [ho,Nat.add_assoc];exact hc _ _ (hs.2 q v e))
  simp [execOp,Instr.loadAt,Instr.sureAddr,f.ev h,this]
theorem zh {t:TypeId} {x:Operand} (i:Nat) {b off o j k:Nat} {cells:List Value} {v:Value} (ht:Ty P t k false) (h:evo m x=some (.pointer (some ⟨b,off,none⟩))) (hi:R[i]? =some (atF b o cells)) (ho:off=o+j) (hs:cells[j]? =some v):
    Vl P n ⟨d,.load t x,ty,ps,af,gd⟩ m O R (Y:=Unit) (fun _=>True) (fun _=>v) (fun _=>[]):=fun a f hh g s r=>by
  have hat:AtP g b o cells:=Holds.get i hi r
  refine ⟨(),trivial,trivial,fun w hw hg=> ?_⟩
  have:=zdb (P:=P) (w:=w) (b:=b) (o:=off) ht (by rw [ho];exact hat.cell hg _ _ hs)
  simp [execOp,Instr.loadAt,Instr.sureAddr,f.ev h,this]
theorem r_u {op:Op} {t:Tmp} (hw:wnt ops m ⟨some t,op,ty,ps,af,gd⟩=some true) (hd:Nat.ble (t+1) n.sz=true) {v:Value} (h:Vl P n ⟨some t,op,ty,ps,af,gd⟩ m O R (Y:=Unit) (fun _=>True) (fun _=>v) (fun _=>[]))
    (k:RunL (ro:=ro) P ops Q c n l ((t,v) :: m) O R):RunL (ro:=ro) P ops Q c n (⟨some t,op,ty,ps,af,gd⟩ :: l) m O R:=r_vl hw hd h (fun _ _=>k)
theorem zA {T:TypeId} {z:Value} {cells:List Value} (hz:Zero P T z) (hc:z.cells=cells.toArray):
    Ef P n ⟨d,.alloc T,ty,ps,af,gd⟩ m [] R (Y:=Nat) (fun _=>True) (fun b=> .pointer (some ⟨b,0,none⟩)) (fun b=>[boxA b T cells]) (fun _=>[]):=by
  intro a f w hh g s r ap h1 h2 K Q hK
  have e:hh=Hp.emp:=s
  subst e
  have hrun:(execOp a.eval ⟨d,.alloc T,ty,ps,af,gd⟩).run P w= .ok (.value (.pointer (some ⟨w.heap.size,0,none⟩))) (w.alloc (.cells cells.toArray T (0,0))):=by
    simp [execOp,Instr.alloc,zFb hz,newVar,newRow,hc]
  refine op_value hrun ?_
  exact hK w.heap.size _ trivial (mem_new h1 h2 rfl)
theorem zT {T:TypeId} {x:Operand} {v:Value} {cells:List Value} (hx:evo m x=some v) (hc:v.cells=cells.toArray):
    Ef P n ⟨d,.box T x,ty,ps,af,gd⟩ m [] R (Y:=Nat) (fun _=>True) (fun b=> .pointer (some ⟨b,0,none⟩)) (fun b=>[boxA b T cells]) (fun _=>[]):=by
  intro a f w hh g s r ap h1 h2 K Q hK
  have e:hh=Hp.emp:=s
  subst e
  have hrun:(execOp a.eval ⟨d,.box T x,ty,ps,af,gd⟩).run P w= .ok (.value (.pointer (some ⟨w.heap.size,0,none⟩))) (w.alloc (.cells cells.toArray T (0,0))):=by
    simp [execOp,Instr.box,newVar,newRow,f.ev hx,hc]
  refine op_value hrun ?_
  exact hK w.heap.size _ trivial (mem_new h1 h2 rfl)
theorem zM {op:Op} {t:Tmp} {T:TypeId} {cells:List Value} (hw:wnt ops m ⟨some t,op,ty,ps,af,gd⟩=some true) (hd:Nat.ble (t+1) n.sz=true)
    (h:Ef P n ⟨some t,op,ty,ps,af,gd⟩ m [] R (Y:=Nat) (fun _=>True) (fun b=> .pointer (some ⟨b,0,none⟩)) (fun b=>[boxA b T cells]) (fun _=>[]))
    (k:∀b,RunL (ro:=ro) P ops Q c n l ((t,.pointer (some ⟨b,0,none⟩)) :: m) (boxA b T cells :: O) R):RunL (ro:=ro) P ops Q c n (⟨some t,op,ty,ps,af,gd⟩ :: l) m O R:=
  zma hw hd h (fun b _=>k b)
theorem zrc {T t:TypeId} {x y:Operand} {b off:Nat} {v:Value} {cells news cells':List Value} (hx:evo m x=some (.pointer (some ⟨b,off,none⟩))) (hy:evo m y=some v) (hv:v.cells=news.toArray)
    (ht:(P.info? t).map (·.size)=some news.length) (h1:news.all (·.oneCell')=true) (hu:Upd cells off news cells'):
    Ef P n ⟨none,.store t x y,ty,ps,af,gd⟩ m [boxA b T cells] R (Y:=Unit) (fun _=>True) (fun _=>undef) (fun _=>[boxA b T cells']) (fun _=>[]):=by
  intro a f w hh g s r ap hw hg K Q hK
  obtain ⟨k1,k2,a1,e1,hb,e2⟩:=s
  have hk2:k2=Hp.emp:=e2
  have hb':k1=Hp.single b (.cells cells.toArray T (0,0)):=hb
  subst hk2;subst hb'
  rw [Hp.join_emp] at e1
  subst e1
  have hblk:=hw _ _ (Hp.single_self _ _)
  have hst:=run_storeCells_at P b off T news 0 cells.toArray w hblk (by have:=hu.1;simpa using this) (by simpa using h1)
  have hrow:(cells.toArray.toList.take (off+0)++news++cells.toArray.toList.drop (off+0+news.length)).toArray=cells'.toArray:=by rw [hu.2];simp
  rw [hrow] at hst
  have hrun:(execOp a.eval ⟨none,.store t x y,ty,ps,af,gd⟩).run P w= .ok .skip (w.setRow b cells'.toArray):=by
    simp [execOp,Instr.storeAt,Instr.sureAddr,storeVar,f.ev hx,f.ev hy,hv,zCa ht,hst]
  refine op_runs (fun c e=>by cases e) hrun ?_
  refine hK () _ trivial (mem_put ap hw hg (A:=boxA b T cells') rfl (setRow_heap w b _ _ T _ hblk) (fun k hk=>setRow_other w b k _ hk) (by simp) rfl rfl rfl)
theorem zl (i:Nat) {T t:TypeId} {x y:Operand} {b off:Nat} {v:Value} {cells news cells':List Value} {O2:List As} (hw:wnt ops m ⟨none,.store t x y,ty,ps,af,gd⟩=some true)
    (hx:evo m x=some (.pointer (some ⟨b,off,none⟩))) (hy:evo m y=some v) (hi:O[i]? =some (boxA b T cells)) (hv:v.cells=news.toArray)
    (ht:(P.info? t).map (·.size)=some news.length) (h1:news.all (·.oneCell')=true) (hu:Upd cells off news cells') (hs:SetAt i O (boxA b T cells') O2)
    (k:RunL (ro:=ro) P ops Q c n l m O2 R):RunL (ro:=ro) P ops Q c n (⟨none,.store t x y,ty,ps,af,gd⟩ :: l) m O R:=
  zya (A':=fun _=>boxA b T cells') (O2:=fun _=>O2) i hi hw rfl (zrc hx hy hv ht h1 hu) (fun _=>hs) (fun _ _=>k)
theorem zq (i:Nat) {s T t:TypeId} {b k:Nat} {off:Nat} {cells cs:List Value} (ht:Ty P t k true) (h:lk m s=some (.pointer (some ⟨b,off,none⟩))) (hi:O[i]? =some (boxA b T cells)) (hs:Slc cells off k cs):
    ResAt P n m O R (.cell s t) (.agg cs.toArray):=fun c a w f mm=>by
  obtain ⟨hh,g,mm⟩:=mm
  obtain ⟨h1,h2,ap,e,hb,_,_⟩:=Sep.pick i hi mm.sep
  have hc:=box_cell mm.hasH (by rw [e];exact Hp.le_joinL _ _) hb
  have:=zcb (P:=P) (w:=w) (b:=b) (o:=off) ht hs.1 (fun j v e=>hc _ _ (hs.2 j v e))
  have hs':a.tmps.getD s undef= .pointer (some ⟨b,off,none⟩):=by simp [Array.getD_eq_getD_getElem?,f.tmp _ _ h]
  simp only [resSem,hs',asAddr,Sem.run_bind,Sem.run_pure,Result.andThen_ok,this]
theorem zyb (i:Nat) {s T t:TypeId} {b k off:Nat} {cells:List Value} {v:Value} (ht:Ty P t k false) (h:lk m s=some (.pointer (some ⟨b,off,none⟩))) (hi:O[i]? =some (boxA b T cells)) (hs:cells[off]? =some v):
    ResAt P n m O R (.cell s t) v:=fun c a w f mm=>by
  obtain ⟨hh,g,mm⟩:=mm
  obtain ⟨h1,h2,ap,e,hb,_,_⟩:=Sep.pick i hi mm.sep
  have hc:=box_cell mm.hasH (by rw [e];exact Hp.le_joinL _ _) hb
  have:=zdb (P:=P) (w:=w) (b:=b) (o:=off) ht (hc _ _ hs)
  have hs':a.tmps.getD s undef= .pointer (some ⟨b,off,none⟩):=by simp [Array.getD_eq_getD_getElem?,f.tmp _ _ h]
  simp only [resSem,hs',asAddr,Sem.run_bind,Sem.run_pure,Result.andThen_ok,this]
theorem foldl_set (off:Nat):∀(vs:List Value) (k:Nat) (cells:List Value),off+k+vs.length≤cells.length→
    (vs.zipIdx k).foldl (fun (cs:Array Value) (p:Value×Nat)=>cs.setIfInBounds (off+p.2) p.1) cells.toArray=(cells.take (off+k)++vs++cells.drop (off+k+vs.length)).toArray
  |[],k,cells,h=>by simp
  |v :: vs,k,cells,h=>by
    simp only [List.zipIdx_cons,List.foldl_cons,List.setIfInBounds_toArray]
    rw [foldl_set off vs (k+1) (cells.set (off+k) v) (by simp at h ⊢;omega)]
    congr 1
    have hlt:off+k<cells.length:=by simp at h;omega
    apply List.ext_getElem?
    intro j
    simp only [List.append_assoc,List.getElem?_append,List.length_take,List.length_set,List.getElem?_take,List.getElem?_set,List.getElem?_drop,List.length_cons]
    have e1:min (off+(k+1)) cells.length=off+k+1:=by omega
    have e2:min (off+k) cells.length=off+k:=by omega
    rw [e1,e2]
    by_cases h1:j<off+k
    · have h2 : j < off + k + 1 := by omega
      have h3:¬off+k=j:=by omega
      have h4:j<off+(k+1):=by omega
      simp [h1,h2,h3,h4]
    · by_cases h2 : j = off + k
      · subst h2
        simp [hlt]
      · have h3 : ¬ j < off + k + 1 := by omega
        simp only [h1,h3,if_false]
        have e3:j - (off+k)=(j - (off+k+1))+1:=by omega
        rw [e3,List.getElem?_cons_succ]
        by_cases h4:j - (off+k+1)<vs.length
        · have h5 : j - (off + k + 1) + 1 < vs.length + 1 := by omega
          simp [h4,h5]
        · have h5 : ¬ (j - (off + k + 1) + 1 < vs.length + 1) := by omega
          have h6:¬off+k=off+(k+1)+vs.length+(j - (off+k+1) - vs.length):=by omega
          simp only [h4,h5,if_false]
          rw [if_neg h6]
          congr 1
          omega
def Fill (place:Nat→Option (Nat×Nat)):List Value→List (Nat×Value)→List Value→Prop
  |cells,[],out=>out=cells
  |cells,(i,v) :: rest,out=>∃off size news cells1,place i=some (off,size)∧v.cells=news.toArray∧news.length=size∧Upd cells off news cells1∧Fill place cells1 rest out
theorem fill_of {place:Nat→Option (Nat×Nat)}:∀{parts:List (Nat×Value)} {cells out:List Value},Fill place cells parts out→Instr.fill place cells.toArray parts=some out.toArray
  |[],cells,out,h=>by have:out=cells:=h;subst this;rfl
  |(i,v) :: rest,cells,out,⟨off,size,news,cells1,h1,h2,h3,h4,h5⟩=>by
    have hb:=h4.1
    have e:=foldl_set off news 0 cells (by simpa using hb)
    have hn1:¬(news.length≠size):=by omega
    have hn2:¬(off+news.length>cells.length):=by omega
    simp only [Instr.fill,h1,h2,List.size_toArray]
    rw [if_neg (by simp [h3];omega)]
    have e':Array.foldl (fun cs x=>match x with|(c,j)=>Array.setIfInBounds cs (off+j) c) cells.toArray news.toArray.zipIdx=cells1.toArray:=by
      have hz:news.toArray.zipIdx=news.zipIdx.toArray:=by apply Array.ext';simp
      rw [hz,List.foldl_toArray,h4.2]
      simpa using e
    rw [e']
    exact fill_of h5
def evp (m:Fm):List (Nat×Operand)→List (Nat×Value)→Prop
  |[],[]=>True
  |(i,x) :: xs,(j,v) :: vs=>i=j∧evo m x=some v∧evp m xs vs
  |_,_=>False
theorem evp.map {a:Act} (f:Fr n a m):∀{xs:List (Nat×Operand)} {vs:List (Nat×Value)},evp m xs vs→xs.map (fun p=>(p.1,a.eval p.2))=vs
  |[],[],_=>rfl
  |(i,x) :: xs,(j,v) :: vs,⟨h0,h1,h2⟩=>by subst h0;simp [f.ev h1,evp.map f h2]
def Places (P:Program):List Field→List (Nat×Nat)→Prop
  |[],[]=>True
  |f :: fs,p :: ps=>p.1=f.offset∧(P.info? f.type).map (·.size)=some p.2∧Places P fs ps
  |_,_=>False
theorem zXc {w:World}:∀{fs:List Field} {pl:List (Nat×Nat)},Places P fs pl→(fs.mapM (fun f=>Functor.map (Prod.mk f.offset) (sizeOf f.type):Field→Sem (Nat×Nat))).run P w= .ok pl w
  |[],[],_=>by simp
  |f :: fs,(o,s) :: pl,⟨h1,h2,h3⟩=>by
    have:=zXc (w:=w) h3
    simp only at h1 h2;subst h1
    simp only [List.mapM_cons,Sem.run_bind,Sem.run_map,zCa h2,Result.andThen_ok,Sem.run_pure,this]
theorem zZ {t:TypeId} {parts:List (Nat×Operand)} {vs:List (Nat×Value)} {z:Value} {cells out:List Value} {fs:List Field} {pl:List (Nat×Nat)} (hz:Zero P t z) (hc:z.cells=cells.toArray) (hu:P.underlying t=some (.struct fs.toArray)) (hp:Places P fs pl)
    (hx:evp m parts vs) (hf:Fill (fun i=>pl[i]?) cells vs out):PV P n ⟨d,.build t parts.toArray,ty,ps,af,gd⟩ m (.agg out.toArray):=fun a w f=>by
  have e:=evp.map f hx
  have hfill:=fill_of hf
  have hparts:(Array.map (fun x:Nat×Operand=>match x with|(i,x)=>(i,a.eval x)) parts.toArray)=vs.toArray:=by rw [List.map_toArray];congr 1
  have hpl:=zXc (w:=w) hp
  have hfn:(fun i:Nat=>(pl.toArray)[i]?)=(fun i:Nat=>pl[i]?):=by funext i;simp
  simp only [execOp,hparts,Instr.build,Sem.run_bind,zFb hz,Result.andThen_ok,hc,run_underlying hu]
  rw [List.mapM_toArray]
  simp [hpl,hfill]
end
end Go.Proofs.YtpdbimfnhglhpaaGreat.Sp
namespace Go.Proofs.YtpdbimfnhglhpaaGreat.Sp
open Go
set_option linter.unusedVariables false
structure Rp (α:Type) where
  sz:Nat
  G:Type
  enc:α→G→List Value
  ok:Hp→α→G→Prop
  mono:∀g g' x γ,g.le g'→ok g x γ→ok g' x γ
  len:∀x γ,(enc x γ).length=sz
  one:∀x γ,(enc x γ).all (·.oneCell')=true
def InK (k:IntKind) (z:Int):Prop:=k.min≤z∧z≤k.max
def fl {α:Type} (sz:Nat) (enc:α→List Value) (ok:α→Prop) (len:∀x,(enc x).length=sz) (one:∀x,(enc x).all (·.oneCell')=true):Rp α:=
  ⟨sz,Unit,fun x _=>enc x,fun _ x _=>ok x,fun _ _ _ _ _ h=>h,fun x _=>len x,fun x _=>one x⟩
def rI (k:IntKind):Rp Int:=fl 1 (fun z=>[.int k z]) (InK k) (fun _=>rfl) (fun _=>rfl)
def rB:Rp Bool:=fl 1 (fun b=>[.bool b]) (fun _=>True) (fun _=>rfl) (fun _=>rfl)
def okF {α:Type} (r:Rp α) (x:α) (γ:r.G):Fa:=⟨fun g=>r.ok g x γ,fun _ _ l h=>r.mono _ _ _ _ l h⟩
def Sl {α:Type} (r:Rp α) (g:Hp) (p:Option Addr) (cap:Nat) (l:List α):Prop:=
  l.length≤cap∧cap≤maxLen∧(p=none→cap=0)∧∀(i:Nat) (x:α),l[i]? =some x→∃b off γ,p=some ⟨b,off,none⟩∧AtP g b (off+i*r.sz) (r.enc x γ)∧r.ok g x γ
theorem Sl.mono {α:Type} {r:Rp α} {g g':Hp} (h:g.le g') {p:Option Addr} {cap:Nat} {l:List α} (s:Sl r g p cap l):Sl r g' p cap l:=
  ⟨s.1,s.2.1,s.2.2.1,fun i x e=>let ⟨b,off,γ,e1,e2,e3⟩:=s.2.2.2 i x e;⟨b,off,γ,e1,e2.mono h,r.mono _ _ _ _ h e3⟩⟩
def slF {α:Type} (r:Rp α) (p:Option Addr) (cap:Nat) (l:List α):Fa:=⟨fun g=>Sl r g p cap l,fun _ _ h s=>s.mono h⟩
def rS {α:Type} (r:Rp α):Rp (List α):=
  ⟨1,Option Addr×Nat,fun l γ=>[.slice γ.1 l.length γ.2],fun g l γ=>Sl r g γ.1 γ.2 l,fun _ _ _ _ h s=>s.mono h,fun _ _=>rfl,fun _ _=>rfl⟩
def rP {α β:Type} (r:Rp α) (s:Rp β):Rp (α×β):=
  ⟨r.sz+s.sz,r.G×s.G,fun x γ=>r.enc x.1 γ.1++s.enc x.2 γ.2,fun g x γ=>r.ok g x.1 γ.1∧s.ok g x.2 γ.2,fun _ _ _ _ h k=>⟨r.mono _ _ _ _ h k.1,s.mono _ _ _ _ h k.2⟩,
    fun x γ=>by simp [r.len,s.len],fun x γ=>by rw [List.all_append,r.one,s.one];rfl⟩
theorem Sl.nil {α:Type} (r:Rp α) (g:Hp):Sl r g none 0 []:=⟨Nat.le_refl _,Nat.zero_le _,fun _=>rfl,fun i x e=>by simp at e⟩
theorem Sl.flat {α:Type} {r:Rp α} {g:Hp} {p:Option Addr} {cap:Nat} {l:List α} (s:Sl r g p cap l) (hne:l≠[]):
    ∃b off news,p=some ⟨b,off,none⟩∧news.length=l.length*r.sz∧(∀w,Has w g→∀j u,news[j]? =some u→w.cell? ⟨b,off+j,none⟩=some u)∧(∀u∈news,u.oneCell'=true)∧
      ∀i x,l[i]? =some x→∃γ,Slc news (i*r.sz) r.sz (r.enc x γ)∧r.ok g x γ:=by
  obtain ⟨b,off,γ0,hp,_,_⟩:=s.2.2.2 0 (l[0]'(by cases l;exact absurd rfl hne;simp)) (by cases l;exact absurd rfl hne;simp)
  have key:∀k,k≤l.length→∃news:List Value,news.length=k*r.sz∧(∀w,Has w g→∀j u,news[j]? =some u→w.cell? ⟨b,off+j,none⟩=some u)∧(∀u∈news,u.oneCell'=true)∧
      ∀i x,i<k→l[i]? =some x→∃γ,Slc news (i*r.sz) r.sz (r.enc x γ)∧r.ok g x γ:=by
    intro k
    induction k with
    |zero=>exact fun _=>⟨[],by simp,fun _ _ _ _ e=>by simp at e,fun _ e=>by simp at e,fun _ _ e=>by omega⟩
    |succ k ih=>
      intro hk
      obtain ⟨news,h1,h2,h3,h4⟩:=ih (by omega)
      have hlt:k<l.length:=by omega
      obtain ⟨b',off',γ,hp',hat,hok⟩:=s.2.2.2 k l[k] (List.getElem?_eq_getElem hlt)
      rw [hp] at hp'
      cases hp'
      refine ⟨news++r.enc l[k] γ,by rw [List.length_append,h1,r.len,Nat.succ_mul],?_,?_,?_⟩
      · intro w hw j u e
        rw [List.getElem?_append] at e
        split at e
        · exact h2 w hw j u e
        · rename_i hj
          have:=hat.cell hw _ _ e
          rw [h1] at hj this
          rw [show off+j=off+k*r.sz+(j - k*r.sz) by omega];exact this
      · intro u hu
        rcases List.mem_append.1 hu with hu|hu
        · exact h3 u hu
        · have := r.one l[k] γ
          rw [List.all_eq_true] at this
          exact this u hu
      · intro i x hi e
        by_cases hik:i<k
        · obtain ⟨γ', e1, e2⟩ := h4 i x hik e
          refine ⟨γ',⟨e1.1,fun j v ev=> ?_⟩,e2⟩
          have:=e1.2 j v ev
          rw [List.getElem?_append,if_pos (by exact (List.getElem?_eq_some_iff.1 this).1)]
          exact this
        · have : i = k := by omega
          subst this
          rw [List.getElem?_eq_getElem hlt] at e
          cases e
          refine ⟨γ,⟨r.len _ _,fun j v ev=> ?_⟩,hok⟩
          rw [List.getElem?_append,if_neg (by omega),h1]
          rw [show i*r.sz+j - i*r.sz=j by omega];exact ev
  obtain ⟨news,h1,h2,h3,h4⟩:=key l.length (Nat.le_refl _)
  exact ⟨b,off,news,hp,h1,h2,h3,fun i x e=>h4 i x (List.getElem?_eq_some_iff.1 e).1 e⟩
def Els {α:Type} (r:Rp α) (g:Hp) (cells:List Value) (off:Nat) (l:List α):Prop:=∀(i:Nat) (x:α),l[i]? =some x→∃γ,Slc cells (off+i*r.sz) r.sz (r.enc x γ)∧r.ok g x γ
def RowOn {α:Type} (T:TypeId) (r:Rp α) (p:Option Addr) (cap:Nat) (l:List α) (g h:Hp):Prop:=
  (p=none∧cap=0∧l=[]∧h=Hp.emp)∨
  ∃b off cells,p=some ⟨b,off,none⟩∧l.length≤cap∧cap≤maxLen∧off+cap*r.sz≤cells.length∧h=Hp.single b (.cells cells.toArray T (0,0))∧Els r g cells off l
def rowA {α:Type} (T:TypeId) (r:Rp α) (p:Option Addr) (cap:Nat) (l:List α):As:=
  ⟨RowOn T r p cap l,fun g g' h hl s=>by
    rcases s with s|⟨b,off,cells,e1,e2,e3,e4,e5,e6⟩
    · exact .inl s
    · exact .inr ⟨b,off,cells,e1,e2,e3,e4,e5,fun i x e=>let ⟨γ,a1,a2⟩:=e6 i x e;⟨γ,a1,r.mono _ _ _ _ hl a2⟩⟩⟩
def rowPtr (p:Option Addr) (o:Nat):Value:= .pointer (p.map fun a=>⟨a.block,a.off+o,none⟩)
theorem rowA_sl {α:Type} {T:TypeId} {r:Rp α} {p:Option Addr} {cap:Nat} {l:List α} {g h:Hp} (s:RowOn T r p cap l g h) (ap:h.apart g):Sl r (g.join h) p cap l:=by
  rcases s with ⟨rfl,rfl,rfl,rfl⟩|⟨b,off,cells,rfl,e2,e3,e4,rfl,e6⟩
  · exact Sl.nil r _
  · refine ⟨e2, e3, (fun e => by cases e), fun i x e => ?_⟩
    obtain ⟨γ,a1,a2⟩:=e6 i x e
    refine ⟨b,off,γ,rfl,⟨cells.toArray,T,(0,0),Hp.le_joinR (Hp.apart_symm ap) _ _ (Hp.single_self _ _),fun j v ev=> ?_⟩,r.mono _ _ _ _ (Hp.le_joinL _ _) a2⟩
    have:=a1.2 j v ev
    simpa using this
section
variable {P : Program} {Q : Exit → Act → World → Prop} {c : Cx} {n : Sz} {ro : Option Nat} {ops : Array Oper} {l : List Oper} {m : Fm} {O : List As} {R : List Fa}
variable {d : Option Tmp} {ty : TypeId} {ps : String} {af : Array Edge} {gd : Option (Nat × Bool)} {α : Type}
theorem Mem.freeze {w:World} (i:Nat) {T:TypeId} {r:Rp α} {p:Option Addr} {cap:Nat} {xs:List α} {O2:List As} (hi:O[i]? =some (rowA T r p cap xs)) (hs:SetAt i O emA O2) (mm:Mem c w O R):Mem c w O2 (slF r p cap xs :: R):=by
  obtain ⟨_,_,m'⟩:=Mem.turn (X:=Unit) (φ:=fun _=>True) (A':=fun _=>emA) (R':=fun _=>[slF r p cap xs]) i hi (fun g h _ hA ap=>⟨(),Hp.emp,h,trivial,rfl,Hp.emp_apart h,rfl,rowA_sl hA ap,trivial⟩) mm
  unfold SetAt at hs;subst hs;exact m'
theorem zea (i:Nat) {T:TypeId} {r:Rp α} {p:Option Addr} {cap:Nat} {xs:List α} {O2:List As} (hi:O[i]? =some (rowA T r p cap xs)) (hs:SetAt i O emA O2) (k:RunL (ro:=ro) P ops Q c n l m O2 (slF r p cap xs :: R)):RunL (ro:=ro) P ops Q c n l m O R:=
  fun a w f mm=>k a w f (mm.freeze i hi hs)
theorem zVb {x:Code} (i:Nat) {T:TypeId} {r:Rp α} {p:Option Addr} {cap:Nat} {xs:List α} {O2:List As} (hi:O[i]? =some (rowA T r p cap xs)) (hs:SetAt i O emA O2) (k:RunC (ro:=ro) P Q c n x m O2 (slF r p cap xs :: R)):RunC (ro:=ro) P Q c n x m O R:=
  fun a w f mm=>k a w f (mm.freeze i hi hs)
theorem zjb {e:Exit} (i:Nat) {T:TypeId} {r:Rp α} {p:Option Addr} {cap:Nat} {xs:List α} {O2:List As} (hi:O[i]? =some (rowA T r p cap xs)) (hs:SetAt i O emA O2) (k:Post c n Q e m O2 (slF r p cap xs :: R)):Post c n Q e m O R:=
  fun a w f mm=>k a w f (mm.freeze i hi hs)
theorem zVa {s e:TypeId} {k:Nat} {a:Addr} {len cap:Nat} {kk:IntKind} {j:Nat} {w:World} (hu:P.underlying s=some (.slice e)) (ht:(P.info? e).map (·.size)=some k) (hl:j<len):
    (Instr.indexAt s (.slice (some a) len cap) (.int kk (j:Int))).run P w= .ok (.pointer (some (a.add (j*k)))) w:=by
  have:(j:Int)<(len:Int):=by omega
  simp [Instr.indexAt,asIntOf,run_underlying hu,hl,zCa ht]
theorem zQ {s e:TypeId} {x ix:Operand} {r:Rp α} {p:Option Addr} {k cap:Nat} {kk:IntKind} {z:Int} {xs:List α} {x0:α} (i j:Nat) (hi:R[i]? =some (slF r p cap xs)) (hu:P.underlying s=some (.slice e)) (ht:(P.info? e).map (·.size)=some r.sz)
    (h1:evo m x=some (.slice p k cap)) (hk:xs.length=k) (h2:evo m ix=some (.int kk z)) (hz:z=(j:Int)) (hx:xs[j]? =some x0):
    Vl P n ⟨d,.indexAddr s x ix,ty,ps,af,gd⟩ m O R (Y:=Nat×Nat×r.G) (fun _=>True) (fun y=> .pointer (some ⟨y.1,y.2.1,none⟩)) (fun y=>[atF y.1 y.2.1 (r.enc x0 y.2.2),okF r x0 y.2.2]):=fun a f hh g sp hr=>by
  have hs:Sl r g p cap xs:=Holds.get i hi hr
  obtain ⟨b,off,γ,e1,e2,e3⟩:=hs.2.2.2 j x0 hx
  refine ⟨(b,off+j*r.sz,γ),trivial,⟨e2,e3,trivial⟩,fun w _ _=> ?_⟩
  subst hz;subst e1
  have hlt:j<k:=by rw [← hk];exact (List.getElem?_eq_some_iff.1 hx).1
  have hrun:=zVa (P:=P) (a:=⟨b,off,none⟩) (cap:=cap) (kk:=kk) (w:=w) hu ht hlt
  simp only [execOp,f.ev h1,f.ev h2,Sem.run_bind,hrun,Result.andThen_ok,Sem.run_pure,Addr.add_lit]
theorem zba {s e:TypeId} {x ix:Operand} {sz:Nat} {enc:α→List Value} {ok:α→Prop} {h1' h2'} {p:Option Addr} {k cap:Nat} {kk:IntKind} {z:Int} {xs:List α} {x0:α} (i j:Nat) (hi:R[i]? =some (slF (fl sz enc ok h1' h2') p cap xs)) (hu:P.underlying s=some (.slice e)) (ht:(P.info? e).map (·.size)=some sz)
    {tt:Tmp} (hw:wnt ops m ⟨some tt,.indexAddr s x ix,ty,ps,af,gd⟩=some true) (hd:Nat.ble (tt+1) n.sz=true) (h1:evo m x=some (.slice p k cap)) (hk:xs.length=k) (h2:evo m ix=some (.int kk z)) (hz:z=(j:Int)) (hx:xs[j]? =some x0)
    (kont:∀b o,ok x0→RunL (ro:=ro) P ops Q c n l ((tt,.pointer (some ⟨b,o,none⟩)) :: m) O (atF b o (enc x0) :: R)):RunL (ro:=ro) P ops Q c n (⟨some tt,.indexAddr s x ix,ty,ps,af,gd⟩ :: l) m O R:=by
  refine r_vl hw hd (zQ (P:=P) (r:=fl sz enc ok h1' h2') i j hi hu ht h1 hk h2 hz hx) (fun y _=> ?_)
  refine zOg (p:=ok x0) (fun g h=>(Holds.get 1 rfl h:(okF (fl sz enc ok h1' h2') x0 y.2.2).on g)) (fun hok=> ?_)
  intro a w f mm
  refine kont y.1 y.2.1 hok a w f ?_
  exact mm.weaken fun h g s r ap=>⟨h,g,s,⟨r.1,r.2.2⟩,Hp.le_refl _,Hp.le_refl _,ap,fun _ _ e=> .inl e⟩
theorem zia {s e T:TypeId} {x ix:Operand} {r:Rp α} {p:Option Addr} {k cap:Nat} {kk:IntKind} {z:Int} {xs:List α} (i j:Nat) (hi:O[i]? =some (rowA T r p cap xs)) (hu:P.underlying s=some (.slice e)) (ht:(P.info? e).map (·.size)=some r.sz)
    (h1:evo m x=some (.slice p k cap)) (hk:xs.length=k) (h2:evo m ix=some (.int kk z)) (hz:z=(j:Int)) (hj:j<k):
    Vl P n ⟨d,.indexAddr s x ix,ty,ps,af,gd⟩ m O R (Y:=Unit) (fun _=>True) (fun _=>rowPtr p (j*r.sz)) (fun _=>[]):=fun a f hh g sp hr=>by
  obtain ⟨k1,k2,ap,e0,hA,_,_⟩:=Sep.pick i hi sp
  refine ⟨(),trivial,trivial,fun w _ _=> ?_⟩
  have hA':RowOn T r p cap xs g k1:=hA
  rcases hA' with ⟨_,_,rfl,_⟩|⟨b,off,cells,rfl,_⟩
  · simp at hk;omega
  · subst hz
    have hrun:=zVa (P:=P) (a:=⟨b,off,none⟩) (cap:=cap) (kk:=kk) (w:=w) hu ht hj
    simp only [execOp,f.ev h1,f.ev h2,Sem.run_bind,hrun,Result.andThen_ok,Sem.run_pure,Addr.add_lit,rowPtr,Option.map_some]
theorem zEc {t T:TypeId} {x:Operand} {r:Rp α} {p:Option Addr} {cap o:Nat} {xs:List α} {x0:α} (i j:Nat) (hi:O[i]? =some (rowA T r p cap xs)) (ht:Ty P t r.sz true) (h:evo m x=some (rowPtr p o)) (ho:o=j*r.sz) (hx:xs[j]? =some x0):
    ∀a,Fr n a m→∀h g,Sep g O h→Holds g R→∃y:r.G,r.ok g x0 y∧∀w,Has w h→Has w g→(execOp a.eval ⟨d,.load t x,ty,ps,af,gd⟩).run P w= .ok (.value (.agg (r.enc x0 y).toArray)) w:=fun a f hh g sp hr=>by
  obtain ⟨k1,k2,ap,e0,hA,_,_⟩:=Sep.pick i hi sp
  have hA':RowOn T r p cap xs g k1:=hA
  rcases hA' with ⟨_,_,rfl,_⟩|⟨b,off,cells,rfl,_,_,_,rfl,e6⟩
  · simp at hx
  · obtain ⟨γ, a1, a2⟩ := e6 j x0 hx
    refine ⟨γ,a2,fun w hw _=> ?_⟩
    have hb:=hw _ _ (by rw [e0];exact Hp.le_joinL _ _ _ _ (Hp.single_self _ _))
    subst ho
    have hload:=zcb (P:=P) (w:=w) (b:=b) (o:=off+j*r.sz) ht (r.len x0 γ) (fun q v e=>by have:=a1.2 q v e;simp [World.cell?,hb,this])
    simp [execOp,Instr.loadAt,Instr.sureAddr,f.ev h,rowPtr,hload]
theorem zFc {t T:TypeId} {x:Operand} {r:Rp α} {p:Option Addr} {cap o:Nat} {xs:List α} {x0:α} (i j:Nat) (hi:O[i]? =some (rowA T r p cap xs)) (ht:Ty P t 1 false) (hsz:r.sz=1) (h:evo m x=some (rowPtr p o)) (ho:o=j*r.sz) (hx:xs[j]? =some x0):
    ∀a,Fr n a m→∀h g,Sep g O h→Holds g R→∃y:r.G,r.ok g x0 y∧∀v,r.enc x0 y=[v]→∀w,Has w h→Has w g→(execOp a.eval ⟨d,.load t x,ty,ps,af,gd⟩).run P w= .ok (.value v) w:=fun a f hh g sp hr=>by
  obtain ⟨k1,k2,ap,e0,hA,_,_⟩:=Sep.pick i hi sp
  have hA':RowOn T r p cap xs g k1:=hA
  rcases hA' with ⟨_,_,rfl,_⟩|⟨b,off,cells,rfl,_,_,_,rfl,e6⟩
  · simp at hx
  · obtain ⟨γ, a1, a2⟩ := e6 j x0 hx
    refine ⟨γ,a2,fun v hv w hw _=> ?_⟩
    have hb:=hw _ _ (by rw [e0];exact Hp.le_joinL _ _ _ _ (Hp.single_self _ _))
    subst ho
    have hload:=zdb (P:=P) (w:=w) (b:=b) (o:=off+j*r.sz) ht (v:=v) (by have:=a1.2 0 v (by rw [hv];rfl);simp at this;simp [World.cell?,hb,this])
    simp [execOp,Instr.loadAt,Instr.sureAddr,f.ev h,rowPtr,hload]
theorem zN {t T:TypeId} {x:Operand} {enc:α→List Value} {ok:α→Prop} {h1' h2'} {p:Option Addr} {cap o:Nat} {xs:List α} {x0:α} {v:Value} (i j:Nat) (hi:O[i]? =some (rowA T (fl 1 enc ok h1' h2') p cap xs)) (ht:Ty P t 1 false) (h:evo m x=some (rowPtr p o)) (ho:o=j*1) (hx:xs[j]? =some x0) (hv:enc x0=[v]):
    Vl P n ⟨d,.load t x,ty,ps,af,gd⟩ m O R (Y:=Unit) (fun _=>ok x0) (fun _=>v) (fun _=>[]):=fun a f hh g sp hr=>by
  obtain ⟨y,hok,hrun⟩:=zFc (P:=P) (n:=n) (d:=d) (ty:=ty) (ps:=ps) (af:=af) (gd:=gd) (R:=R) (r:=fl 1 enc ok h1' h2') i j hi ht rfl h ho hx a f hh g sp hr
  exact ⟨(),hok,trivial,hrun v hv⟩
end
end Go.Proofs.YtpdbimfnhglhpaaGreat.Sp
namespace Go.Proofs.YtpdbimfnhglhpaaGreat.Sp
open Go
set_option linter.unusedVariables false
structure Inf (P:Program) (e:TypeId) (sz bytes:Nat) (z:Value):Prop where
  info:∃i,P.info? e=some i∧i.zero=some z∧i.size=sz∧i.bytes=bytes
theorem Inf.mk' {P:Program} {e:TypeId} {sz bytes:Nat} {z:Value} (h:(P.info? e).map (fun i=>(i.zero,i.size,i.bytes))=some (some z,sz,bytes)):Inf P e sz bytes z:=by
  cases hi:P.info? e with
  |none=>rw [hi] at h;cases h
  |some i=>rw [hi] at h;simp at h;exact ⟨i,hi,h.1,h.2.1,h.2.2⟩
theorem mul_lt_len {i n k j:Nat} (hi:i<n) (hj:j<k):i*k+j<n*k:=by
  have:(i+1)*k≤n*k:=Nat.mul_le_mul_right k hi
  rw [Nat.succ_mul] at this
  omega
section
variable {P : Program} {Q : Exit → Act → World → Prop} {c : Cx} {n : Sz} {ro : Option Nat} {ops : Array Oper} {l : List Oper} {m : Fm} {O : List As} {R : List Fa}
variable {d : Option Tmp} {ty : TypeId} {ps : String} {af : Array Edge} {gd : Option (Nat × Bool)} {α : Type}
theorem zua {t T:TypeId} {bytes:Nat} {z:Value} {x y:Operand} {k1 k2:IntKind} {z1 z2:Int} {k:Nat} {r:Rp α} {x0:α} {γ0:r.G} (hu:P.underlying t=some (.slice T)) (hI:Inf P T r.sz bytes z) (h1:evo m x=some (.int k1 z1)) (h2:evo m y=some (.int k2 z2))
    (hz1:z1=(k:Int)) (hz2:z2=(k:Int)) (hb:bytes*k≤281474976710656) (hm:k≤9223372036854775807) (henc:z.cells=(r.enc x0 γ0).toArray) (hok:∀g,Holds g R→r.ok g x0 γ0) (hpos:0<r.sz):
    Ef P n ⟨d,.makeSlice t x y,ty,ps,af,gd⟩ m [] R (Y:=Nat) (fun _=>True) (fun b=> .slice (some ⟨b,0,none⟩) k k) (fun b=>[rowA T r (some ⟨b,0,none⟩) k (List.replicate k x0)]) (fun _=>[]):=by
  intro a f w hh g s rr ap hw hg K Q hK
  have e:hh=Hp.emp:=s
  subst e;subst hz1;subst hz2
  obtain ⟨i,hi,hz,hsz,hby⟩:=hI.info
  have hrun:=run_make (P:=P) w t T i z hu hi hz k1 k2 (k:Int) (k:Int) (by omega) (by omega) (by rw [hby,←Int.natCast_mul];generalize bytes*k=q at hb;omega) (by omega)
  have hrun':(execOp a.eval ⟨d,.makeSlice t x y,ty,ps,af,gd⟩).run P w= .ok (.value (.slice (some ⟨w.heap.size,0,none⟩) k k)) (w.alloc (.cells (madeCells z.cells (k*r.sz)) T)):=by
    simp only [execOp,f.ev h1,f.ev h2,Sem.run_bind,hrun,Result.andThen_ok,Sem.run_pure,hsz,Int.toNat_natCast]
  refine op_value hrun' ?_
  refine hK w.heap.size _ trivial (mem_new hw hg ?_)
  refine .inr ⟨w.heap.size,0,(madeCells z.cells (k*r.sz)).toList,rfl,by rw [List.length_replicate];exact Nat.le_refl _,by unfold maxLen;omega,by rw [Array.length_toList,size_madeCells,Nat.zero_add];exact Nat.le_refl _,by rw [Array.toArray_toList],fun j x hx=> ?_⟩
  have hj:j<k:=by
    have:=(List.getElem?_eq_some_iff.1 hx).1
    simpa using this
  have hx':x=x0:=by
    have:=(List.getElem?_eq_some_iff.1 hx).2
    simpa using this.symm
  subst hx'
  refine ⟨γ0,⟨r.len _ _,fun q v hv=> ?_⟩,hok g rr⟩
  have hq:q<r.sz:=by have:=(List.getElem?_eq_some_iff.1 hv).1;rwa [r.len] at this
  have hlt:0+j*r.sz+q<k*r.sz:=by have:=mul_lt_len hj hq;omega
  have hmod:(0+j*r.sz+q)%r.sz=q:=by
    rw [Nat.zero_add,Nat.mul_comm,Nat.mul_add_mod];exact Nat.mod_eq_of_lt hq
  have hzs:z.cells.size=r.sz:=by rw [henc];simp [r.len]
  unfold madeCells
  rw [Array.getElem?_toList,Array.getElem?_map,Array.getElem?_range,if_pos hlt]
  simp only [Option.map_some,hzs,hmod]
  rw [henc]
  have hvq:=(List.getElem?_eq_some_iff.1 hv)
  obtain ⟨hq',hvq⟩:=hvq
  simp [hq',hvq]
theorem zGc {t:TypeId} {T:TypeId} {i:TypeInfo} (ht:P.underlying t=some (.slice T)) (hi:P.info? T=some i) (ty:TypeId) (p q:Option Addr) (k cap cap2:Nat) (hk:k≤cap) (w:World):
    (Builtin.append_ #[t,t] ty #[.slice p k cap,.slice q 0 cap2]).run P w= .ok (.slice p k cap) w:=by
  have hf:(Builtin.firstCells i.size 0 (.slice q 0 cap2)).run P w= .ok #[] w:=by
    cases q with
    |none=>simp [Builtin.firstCells]
    |some a=>simp [Builtin.firstCells,loadCells,loadCellsFrom]
  cases p with
  |none=>simp [Builtin.append_,run_underlying ht,sizeOf,typeInfo,hi,Builtin.lenOf,hk,hf]
  |some a=>simp [Builtin.append_,run_underlying ht,sizeOf,typeInfo,hi,Builtin.lenOf,hk,hf,storeCells]
theorem run_append_room' {t T:TypeId} {i:TypeInfo} (ht:P.underlying t=some (.slice T)) (hi:P.info? T=some i) (ty:TypeId) (w:World) (b off sLen sCap:Nat) (cur:Array Value) (hg:w.heap[b]? =some (.cells cur T (0,0)))
    (a:Addr) (k cap2:Nat) (news:List Value) (hl:news.length=k*i.size) (hnews:∀j u,news[j]? =some u→w.cell? (a.add j)=some u) (h1:∀u∈news,u.oneCell'=true)
    (hroom:sLen+k≤sCap) (hfit:off+sLen*i.size+news.length≤cur.size):
    (Builtin.append_ #[t,t] ty #[.slice (some ⟨b,off,none⟩) sLen sCap,.slice (some a) k cap2]).run P w=
      .ok (.slice (some ⟨b,off,none⟩) (sLen+k) sCap) (w.setRow b (cur.toList.take (off+sLen*i.size)++news++cur.toList.drop (off+sLen*i.size+news.length)).toArray):=by
  have hf:=run_firstCells_some (P:=P) w i.size k a k cap2 news hl hnews
  have hst:=run_storeCells_at P b (off+sLen*i.size) T news 0 cur w hg (by simpa using hfit) h1
  simp only [Nat.add_zero] at hst
  simp [Builtin.append_,run_underlying ht,sizeOf,typeInfo,hi,Builtin.lenOf,hroom,hf,Addr.add_lit,hst]
theorem Els.flat {r:Rp α} {g:Hp} {cells:List Value} {off:Nat} {xs:List α} (e:Els r g cells off xs) (hlen:off+xs.length*r.sz≤cells.length):
    ∀i x,xs[i]? =some x→∃γ,Slc ((cells.drop off).take (xs.length*r.sz)) (i*r.sz) r.sz (r.enc x γ)∧r.ok g x γ:=by
  intro i x hx
  obtain ⟨γ,a1,a2⟩:=e i x hx
  refine ⟨γ,⟨a1.1,fun j v hv=> ?_⟩,a2⟩
  have hi:=(List.getElem?_eq_some_iff.1 hx).1
  have hj:j<r.sz:=by have:=(List.getElem?_eq_some_iff.1 hv).1;rwa [r.len] at this
  have:=mul_lt_len hi hj
  rw [List.getElem?_take,if_pos this,List.getElem?_drop]
  have:=a1.2 j v hv
  rw [← Nat.add_assoc];exact this
theorem els_join {r:Rp α} {g:Hp} {A B rest:List Value} {off:Nat} {pre:List Value} {xs ys:List α} (hpre:pre.length=off) (hA:A.length=xs.length*r.sz) (h1:∀i x,xs[i]? =some x→∃γ,Slc A (i*r.sz) r.sz (r.enc x γ)∧r.ok g x γ)
    (h2:∀i x,ys[i]? =some x→∃γ,Slc B (i*r.sz) r.sz (r.enc x γ)∧r.ok g x γ):Els r g (pre++(A++(B++rest))) off (xs++ys):=by
  intro i x hx
  rw [List.getElem?_append] at hx
  split at hx
  · rename_i hi
    obtain ⟨γ,a1,a2⟩:=h1 i x hx
    refine ⟨γ,⟨a1.1,fun j v hv=> ?_⟩,a2⟩
    have:=a1.2 j v hv
    have hlt:=(List.getElem?_eq_some_iff.1 this).1
    rw [List.getElem?_append,if_neg (by omega),hpre,List.getElem?_append,if_pos (by omega)]
    rw [show off+i*r.sz+j - off=i*r.sz+j by omega];exact this
  · rename_i hi
    obtain ⟨γ,a1,a2⟩:=h2 (i - xs.length) x hx
    refine ⟨γ,⟨a1.1,fun j v hv=> ?_⟩,a2⟩
    have:=a1.2 j v hv
    have hlt:=(List.getElem?_eq_some_iff.1 this).1
    have hmul:i*r.sz=xs.length*r.sz+(i - xs.length)*r.sz:=by rw [← Nat.add_mul];congr 1;omega
    rw [List.getElem?_append,if_neg (by omega),hpre,List.getElem?_append,if_neg (by omega),hA,List.getElem?_append,if_pos (by omega)]
    rw [show off+i*r.sz+j - off - xs.length*r.sz=(i - xs.length)*r.sz+j by omega];exact this
theorem zsa {t T:TypeId} {bytes:Nat} {z:Value} {x y:Operand} {r:Rp α} {p q:Option Addr} {k cap k2 cap2:Nat} {xs ys:List α} (j:Nat) (hj:R[j]? =some (slF r q cap2 ys)) (hu:P.underlying t=some (.slice T)) (hI:Inf P T r.sz bytes z) (hpos:0<r.sz) (hzs:z.cells.size=r.sz)
    (h1:evo m x=some (.slice p k cap)) (hk:xs.length=k) (h2:evo m y=some (.slice q k2 cap2)) (hk2:ys.length=k2) (hm:k+k2≤9223372036854775807) (hby:(k+k2)*bytes≤140737488355328):
    Ef P n ⟨d,.call ⟨.builtin .append,#[x,y],#[t,t]⟩,ty,ps,af,gd⟩ m [rowA T r p cap xs] R (Y:=Option Addr×Nat) (fun _=>True) (fun v=> .slice v.1 (k+k2) v.2) (fun v=>[rowA T r v.1 v.2 (xs++ys)]) (fun _=>[]):=by
  intro a f w hh g s rr ap hw hg K Q hK
  obtain ⟨h1',h2',a1,e1,hA,e2⟩:=s
  have e2':h2'=Hp.emp:=e2
  subst e2'
  rw [Hp.join_emp] at e1
  subst e1
  have hs:Sl r g q cap2 ys:=Holds.get j hj rr
  obtain ⟨i,hi,hz,hsz,hbyt⟩:=hI.info
  subst hk;subst hk2
  have hexec:∀v w',(Builtin.append_ #[t,t] ty #[.slice p xs.length cap,.slice q ys.length cap2]).run P w= .ok v w'→(execOp a.eval ⟨d,.call ⟨.builtin .append,#[x,y],#[t,t]⟩,ty,ps,af,gd⟩).run P w= .ok (.value v) w':=fun v w' hr=>by
    simp only [execOp,resolve,invoke,builtin,Sem.run_bind,Sem.run_pure,Result.andThen_ok,List.map_toArray,List.map_cons,List.map_nil,f.ev h1,f.ev h2,hr]
  by_cases hne:ys=[]
  · subst hne
    have hcap:xs.length≤cap:=by
      have hA':RowOn T r p cap xs g hh:=hA
      rcases hA' with ⟨_,_,rfl,_⟩|⟨_,_,_,_,h,_⟩
      · simp
      · exact h
    refine op_value (hexec _ _ (zGc hu hi ty p q xs.length cap cap2 hcap w)) ?_
    refine hK (p,cap) w trivial ⟨hh,g,Mem.start ⟨hh,Hp.emp,fun _=> .inr rfl,(Hp.join_emp _).symm,by simpa using hA,rfl⟩ trivial ap hw hg⟩
  · obtain ⟨b2, off2, news, hq, hnl, hnc, hn1, hne'⟩ := hs.flat hne
    subst hq
    have hnews:∀j u,news[j]? =some u→w.cell? ((⟨b2,off2,none⟩:Addr).add j)=some u:=fun j u e=>by rw [Addr.add_lit];exact hnc w hg j u e
    have hys:0<ys.length:=by cases ys;exact absurd rfl hne;simp
    have hnl':news.length=ys.length*i.size:=by rw [hsz];exact hnl
    have hA':RowOn T r p cap xs g hh:=hA
    rcases hA' with ⟨rfl,rfl,rfl,rfl⟩|⟨b,off,cells,rfl,hlc,hcm,hcl,rfl,hel⟩
    · have hr := run_append_nil (P := P) w t ty T i z hu hi hz ⟨b2, off2, none⟩ ys.length cap2 news hnl' hnews hys (by simp at hm; omega) (by rw [hbyt]; simp at hby; omega)
      simp only [List.length_nil] at hexec
      refine op_value (hexec _ _ hr) ?_
      have hge:=grownCap_ge w ys.length 0 T
      have hfin:=fun hM=>hK (some ⟨w.heap.size,0,none⟩,grownCap w ys.length 0 T) (w.drew.alloc (Obj.cells (news.toArray++Builtin.zeroCells z.cells (grownCap w ys.length 0 T - ys.length)) T)) trivial hM
      simp only [List.length_nil,Nat.zero_add] at hfin
      refine hfin (mem_drew (mem_new (w:=w.drew) hw hg ?_))
      refine .inr ⟨w.heap.size,0,news++(Builtin.zeroCells z.cells (grownCap w ys.length 0 T - ys.length)).toList,rfl,by simpa using hge,grownCap_le_maxLen w _ 0 T (by unfold maxLen;simp at hm;omega),?_,?_,?_⟩
      · simp only [List.length_append, hnl, Array.length_toList, size_zeroCells, hzs]
        have e:grownCap w ys.length 0 T=ys.length+(grownCap w ys.length 0 T - ys.length):=by omega
        have e':=congrArg (· *r.sz) e
        simp only [Nat.add_mul] at e'
        omega
      · congr 2;apply Array.ext';simp
      · have := els_join (r := r) (g := g) (A := []) (B := news) (rest := (Builtin.zeroCells z.cells (grownCap w ys.length 0 T - ys.length)).toList) (off := 0) (pre := []) (xs := []) (ys := ys) rfl (by simp) (fun _ _ e => by simp at e) hne'
        simpa using this
    · have hb := hw _ _ (Hp.single_self _ _)
      have hxl:off+xs.length*r.sz≤cells.length:=by
        have:=Nat.mul_le_mul_right r.sz hlc
        omega
      by_cases hroom:xs.length+ys.length≤cap
      · have hfit:off+xs.length*i.size+news.length≤cells.toArray.size:=by
          rw [hnl,hsz]
          have:=Nat.mul_le_mul_right r.sz hroom
          rw [Nat.add_mul] at this
          simp only [List.size_toArray];omega
        have hr:=run_append_room' hu hi ty w b off xs.length cap cells.toArray hb ⟨b2,off2,none⟩ ys.length cap2 news hnl' hnews hn1 hroom hfit
        refine op_value (hexec _ _ hr) ?_
        refine hK (some ⟨b,off,none⟩,cap) _ trivial (mem_put ap hw hg (A:=rowA T r (some ⟨b,off,none⟩) cap (xs++ys)) ?_ (setRow_heap w b _ _ T _ hb) (fun k hk=>setRow_other w b k _ hk) (by simp) rfl rfl rfl)
        refine .inr ⟨b,off,_,rfl,by simpa using hroom,hcm,?_,rfl,?_⟩
        · simp only [List.length_append, List.length_take, List.length_drop, List.size_toArray] at hfit ⊢
          omega
        · have hsp:cells.take (off+xs.length*i.size)=cells.take off++(cells.drop off).take (xs.length*r.sz):=by
            rw [hsz,List.take_add]
          simp only [hsp,List.append_assoc]
          exact els_join (by simp;omega) (by simp;omega) (hel.flat hxl) hne'
      · have hold:∀j v,((cells.drop off).take (xs.length*r.sz))[j]? =some v→w.cell? ((⟨b,off,none⟩:Addr).add j)=some v:=fun j v e=>by
          rw [Addr.add_lit]
          rw [List.getElem?_take] at e
          split at e
          · rw [List.getElem?_drop] at e
            simp [World.cell?,hb,e]
          · cases e
        have hr:=run_append_grow (P:=P) w t ty T i z hu hi hz ⟨b,off,none⟩ xs.length cap ((cells.drop off).take (xs.length*r.sz)) (by rw [hsz];simp;omega) hold ⟨b2,off2,none⟩ ys.length cap2 news hnl' hnews (by omega) (by omega) (growslice_fits (by omega) (by rw [hbyt];exact hby))
        refine op_value (hexec _ _ hr) ?_
        have hge:=grownCap_ge w (xs.length+ys.length) cap T
        -- the old row is let go
        have hMem:=mem_new (w:=w.drew) (g:=g) (o:= .cells ((((cells.drop off).take (xs.length*r.sz)).toArray++news.toArray++Builtin.zeroCells z.cells (grownCap w (xs.length+ys.length) cap T - (xs.length+ys.length)))) T) (fun _ _ e=>by cases e) hg (A:=rowA T r (some ⟨w.heap.size,0,none⟩) (grownCap w (xs.length+ys.length) cap T) (xs++ys)) ?_
        · refine hK (some ⟨w.heap.size, 0, none⟩, grownCap w (xs.length + ys.length) cap T) _ trivial ?_
          obtain ⟨h',g',m'⟩:=mem_drew hMem
          refine ⟨h',g',m'.sep,m'.holds,m'.apart,m'.hasH,m'.hasG,m'.le,fun k e nn=> .inl ?_,fun k e nn=> ?_,⟨m'.kept.os,m'.kept.tape,m'.kept.output,m'.kept.size,fun k hk e=>m'.kept.block k hk rfl⟩⟩
          · rcases m'.newG k e nn with x | x
            · exact x
            · exact absurd rfl x
          · exact m'.newH k rfl nn
        · refine .inr ⟨w.heap.size, 0, (cells.drop off).take (xs.length * r.sz) ++ (news ++ (Builtin.zeroCells z.cells (grownCap w (xs.length + ys.length) cap T - (xs.length + ys.length))).toList), rfl, by simpa using hge, grownCap_le_maxLen w _ cap T (by unfold maxLen; omega), ?_, ?_, ?_⟩
          · simp only [List.length_append, hnl, Array.length_toList, size_zeroCells, hzs, List.length_take, List.length_drop]
            have e:grownCap w (xs.length+ys.length) cap T=xs.length+ys.length+(grownCap w (xs.length+ys.length) cap T - (xs.length+ys.length)):=by omega
            have e':=congrArg (· *r.sz) e
            simp only [Nat.add_mul] at e'
            omega
          · congr 2;apply Array.ext';simp
          · have := els_join (r := r) (g := g) (A := (cells.drop off).take (xs.length * r.sz)) (B := news) (rest := (Builtin.zeroCells z.cells (grownCap w (xs.length + ys.length) cap T - (xs.length + ys.length))).toList) (off := 0) (pre := []) (xs := xs) (ys := ys) rfl (by simp; omega) (hel.flat hxl) hne'
            simpa using this
end
end Go.Proofs.YtpdbimfnhglhpaaGreat.Sp
namespace Go.Proofs.YtpdbimfnhglhpaaGreat.Sp
open Go
set_option linter.unusedVariables false
section
variable {P : Program} {Q : Exit → Act → World → Prop} {c : Cx} {n : Sz} {ro : Option Nat} {ops : Array Oper} {l : List Oper} {m : Fm} {O : List As} {R : List Fa}
variable {d : Option Tmp} {ty : TypeId} {ps : String} {af : Array Edge} {gd : Option (Nat × Bool)} {α : Type}
theorem splice_get {cells news:List Value} {o:Nat} (h:o+news.length≤cells.length) (k:Nat):
    (cells.take o++news++cells.drop (o+news.length))[k]? =if o≤k∧k<o+news.length then news[k - o]? else cells[k]? :=by
  simp only [List.append_assoc,List.getElem?_append,List.length_take,List.getElem?_take,List.getElem?_drop]
  have e1:min o cells.length=o:=by omega
  rw [e1]
  by_cases h1:k<o
  · have h2 : ¬ (o ≤ k ∧ k < o + news.length) := by omega
    simp [h1,h2]
  · by_cases h2 : k < o + news.length
    · have h3 : o ≤ k ∧ k < o + news.length := by omega
      have h4:k - o<news.length:=by omega
      simp [h1,h3,h4]
    · have h3 : ¬ (o ≤ k ∧ k < o + news.length) := by omega
      have h4:¬(k - o<news.length):=by omega
      simp only [h1,h4,h3,if_false]
      congr 1;omega
theorem zL {t T:TypeId} {x y:Operand} {r:Rp α} {p:Option Addr} {cap o j:Nat} {xs:List α} {x0:α} {γ0:r.G} {v:Value} (hx:evo m x=some (rowPtr p o)) (ho:o=j*r.sz) (hj:j<xs.length) (hy:evo m y=some v) (hv:v.cells=(r.enc x0 γ0).toArray)
    (ht:(P.info? t).map (·.size)=some r.sz) (hok:∀g,Holds g R→r.ok g x0 γ0):
    Ef P n ⟨none,.store t x y,ty,ps,af,gd⟩ m [rowA T r p cap xs] R (Y:=Unit) (fun _=>True) (fun _=>undef) (fun _=>[rowA T r p cap (xs.set j x0)]) (fun _=>[]):=by
  intro a f w hh g s rr ap hw hg K Q hK
  obtain ⟨k1,k2,a1,e1,hA,e2⟩:=s
  have hk2:k2=Hp.emp:=e2
  subst hk2
  rw [Hp.join_emp] at e1
  subst e1
  have hA':RowOn T r p cap xs g hh:=hA
  rcases hA' with ⟨_,_,rfl,_⟩|⟨b,off,cells,rfl,hlc,hcm,hcl,rfl,hel⟩
  · simp at hj
  · have hblk := hw _ _ (Hp.single_self _ _)
    subst ho
    have hjc:(j+1)*r.sz≤cap*r.sz:=Nat.mul_le_mul_right _ (by omega)
    rw [Nat.succ_mul] at hjc
    have hfit:off+j*r.sz+(r.enc x0 γ0).length≤cells.length:=by rw [r.len];omega
    have hst:=run_storeCells_at P b (off+j*r.sz) T (r.enc x0 γ0) 0 cells.toArray w hblk (by simpa using hfit) (by have:=r.one x0 γ0;rwa [List.all_eq_true] at this)
    have hx':a.eval x= .pointer (some ⟨b,off+j*r.sz,none⟩):=f.ev hx
    have hrun:(execOp a.eval ⟨none,.store t x y,ty,ps,af,gd⟩).run P w= .ok .skip (w.setRow b (cells.take (off+j*r.sz)++r.enc x0 γ0++cells.drop (off+j*r.sz+(r.enc x0 γ0).length)).toArray):=by
      have hsz:(r.enc x0 γ0).length=r.sz:=r.len _ _
      simp only [Nat.add_zero] at hst
      simp [execOp,Instr.storeAt,Instr.sureAddr,storeVar,hx',f.ev hy,hv,zCa ht,hsz]
      rw [hsz] at hst
      simp at hst
      simp [hst]
    refine op_runs (fun c e=>by cases e) hrun ?_
    refine hK () _ trivial (mem_put ap hw hg (A:=rowA T r (some ⟨b,off,none⟩) cap (xs.set j x0)) ?_ (setRow_heap w b _ _ T _ hblk) (fun k hk=>setRow_other w b k _ hk) (by simp) rfl rfl rfl)
    refine .inr ⟨b,off,_,rfl,by simpa using hlc,hcm,?_,rfl,?_⟩
    · simp only [List.length_append,List.length_take,List.length_drop] at hfit ⊢;omega
    · intro i x1 hi
      by_cases hij:i=j
      · subst hij
        rw [List.getElem?_set_self hj] at hi
        cases hi
        refine ⟨γ0,⟨r.len _ _,fun q u hu=> ?_⟩,hok g rr⟩
        have hq:=(List.getElem?_eq_some_iff.1 hu).1
        rw [splice_get hfit,if_pos (by omega)]
        rw [show off+i*r.sz+q - (off+i*r.sz)=q by omega];exact hu
      · rw [List.getElem?_set_ne (Ne.symm hij)] at hi
        obtain ⟨γ,b1,b2⟩:=hel i x1 hi
        refine ⟨γ,⟨b1.1,fun q u hu=> ?_⟩,b2⟩
        have hq:q<r.sz:=by have:=(List.getElem?_eq_some_iff.1 hu).1;rwa [r.len] at this
        rw [splice_get hfit,if_neg]
        · exact b1.2 q u hu
        · rw [r.len]
          rcases Nat.lt_or_gt_of_ne hij with h|h
          · have := mul_lt_len h hq
            omega
          · have h' : (j + 1) * r.sz ≤ i * r.sz := Nat.mul_le_mul_right _ h
            rw [Nat.succ_mul] at h'
            omega
theorem zUc {t e:TypeId} {sz bytes k:Nat} {z:Value} {vs:List (Nat×Value)} {out:List Value} {w:World} (hu:P.underlying t=some (.slice e)) (hI:Inf P e sz bytes z) (hzs:z.cells.size=sz) (hk:k*sz≤16777216) (hpos:0<k*sz)
    (hf:Fill (fun i=>some (i*sz,sz)) (madeCells z.cells (k*sz)).toList vs out):
    (Instr.buildSlice t k vs.toArray).run P w= .ok (.slice (some ⟨w.heap.size,0,none⟩) k k) (w.alloc (.cells out.toArray e)):=by
  obtain ⟨i,hi,hz,hsz,hby⟩:=hI.info
  have hfill:=fill_of hf
  rw [Array.toArray_toList] at hfill
  have h1:¬(16777216<k*sz):=by omega
  have h2:¬(k*sz=0):=by omega
  unfold madeCells at hfill
  simp [Instr.buildSlice,run_underlying hu,sizeOf,typeInfo,zeroValue,hi,hz,hsz,h1,h2,hfill,newRow]
theorem zzb {t e:TypeId} {bytes k:Nat} {z:Value} {parts:List (Nat×Operand)} {vs:List (Nat×Value)} {out:List Value} {r:Rp α} {xs:List α} (hu:P.underlying t=some (.slice e)) (hI:Inf P e r.sz bytes z) (hzs:z.cells.size=r.sz) (hk:k*r.sz≤16777216) (hpos:0<k*r.sz) (hkm:k≤16777216)
    (hx:evp m parts vs) (hf:Fill (fun i=>some (i*r.sz,r.sz)) (madeCells z.cells (k*r.sz)).toList vs out) (hlen:xs.length=k) (hol:out.length=k*r.sz)
    (hel:∀g,Holds g R→Els r g out 0 xs):
    Ef P n ⟨d,.buildSlice t k parts.toArray,ty,ps,af,gd⟩ m [] R (Y:=Nat) (fun _=>True) (fun b=> .slice (some ⟨b,0,none⟩) k k) (fun b=>[rowA e r (some ⟨b,0,none⟩) k xs]) (fun _=>[]):=by
  intro a f w hh g s rr ap hw hg K Q hK
  have e0:hh=Hp.emp:=s
  subst e0
  have ev:=evp.map f hx
  have hparts:(Array.map (fun x:Nat×Operand=>match x with|(i,x)=>(i,a.eval x)) parts.toArray)=vs.toArray:=by rw [List.map_toArray];congr 1
  have hrun:(execOp a.eval ⟨d,.buildSlice t k parts.toArray,ty,ps,af,gd⟩).run P w= .ok (.value (.slice (some ⟨w.heap.size,0,none⟩) k k)) (w.alloc (.cells out.toArray e)):=by
    simp only [execOp,hparts,Sem.run_bind,zUc hu hI hzs hk hpos hf,Result.andThen_ok,Sem.run_pure]
  refine op_value hrun ?_
  refine hK w.heap.size _ trivial (mem_new hw hg ?_)
  exact .inr ⟨w.heap.size,0,out,rfl,by omega,by unfold maxLen;omega,by omega,rfl,hel g rr⟩
theorem zwa {t e:TypeId} {sz bytes:Nat} {z:Value} (r:Rp α) (hu:P.underlying t=some (.slice e)) (hI:Inf P e sz bytes z):
    Ef P n ⟨d,.buildSlice t 0 #[],ty,ps,af,gd⟩ m [] R (Y:=Nat) (fun _=>True) (fun b=> .slice (some ⟨b,0,none⟩) 0 0) (fun b=>[rowA e r (some ⟨b,0,none⟩) 0 []]) (fun _=>[]):=by
  intro a f w hh g s rr ap hw hg K Q hK
  have e0:hh=Hp.emp:=s
  subst e0
  obtain ⟨i,hi,hz,hsz,hby⟩:=hI.info
  have hrun:(execOp a.eval ⟨d,.buildSlice t 0 #[],ty,ps,af,gd⟩).run P w= .ok (.value (.slice (some ⟨w.heap.size,0,none⟩) 0 0)) (w.alloc (.cells #[] e)):=by
    simp [execOp,Instr.buildSlice,run_underlying hu,sizeOf,typeInfo,hi,Instr.fill,newRow,Array.range_zero']
  refine op_value hrun ?_
  refine hK w.heap.size _ trivial (mem_new hw hg ?_)
  exact .inr ⟨w.heap.size,0,[],rfl,by simp,by unfold maxLen;omega,by simp,rfl,fun i x e=>by simp at e⟩
theorem zzd {t e:TypeId} {sz:Nat} {p:Option Addr} {len cap lo hi:Nat} {vlo vhi:Option Value} {w:World} (hu:P.underlying t=some (.slice e)) (ht:(P.info? e).map (·.size)=some sz)
    (h1:(vlo=none∧lo=0)∨∃k,vlo=some (.int k (lo:Int))) (h2:(vhi=none∧hi=len)∨∃k,vhi=some (.int k (hi:Int))) (hlh:lo≤hi) (hhc:hi≤cap):
    (Instr.sliceAt t (.slice p len cap) vlo vhi none).run P w= .ok (.slice (if cap=lo then p else p.map (·.add (lo*sz))) (hi - lo) (cap - lo)) w:=by
  have a1:(lo:Int)≤(hi:Int):=by omega
  have a2:(hi:Int)≤(cap:Int):=by omega
  rcases h1 with ⟨rfl,rfl⟩|⟨k1,rfl⟩ <;> rcases h2 with ⟨rfl,rfl⟩|⟨k2,rfl⟩ <;>
    simp [Instr.sliceAt,Instr.slice,Instr.sliceBounds,Instr.sliceBound,asIntOf,run_underlying hu,zCa ht,hlh,hhc]
def optEv (m:Fm):Option Operand→Option Value→Prop
  |none,v=>v=none
  |some x,v=>∃u,v=some u∧evo m x=some u
theorem optEv.map {a:Act} (f:Fr n a m) {x:Option Operand} {v:Option Value} (h:optEv m x v):x.map a.eval=v:=by
  cases x with
  |none=>exact h.symm
  |some x=>obtain ⟨u,rfl,e⟩:=h;simp [f.ev e]
def newP (p:Option Addr) (cap lo sz:Nat):Option Addr:=if cap=lo then p else p.map (·.add (lo*sz))
theorem zCe {t e:TypeId} {x:Operand} {xl xh:Option Operand} {vlo vhi:Option Value} {sz lo hi k cap:Nat} {p:Option Addr} (hu:P.underlying t=some (.slice e)) (ht:(P.info? e).map (·.size)=some sz) (h0:evo m x=some (.slice p k cap)) (hl:optEv m xl vlo) (hh:optEv m xh vhi)
    (h1:(vlo=none∧lo=0)∨∃k,vlo=some (.int k (lo:Int))) (h2:(vhi=none∧hi=k)∨∃k,vhi=some (.int k (hi:Int))) (hlh:lo≤hi) (hhc:hi≤cap):
    PV P n ⟨d,.slice t x xl xh none,ty,ps,af,gd⟩ m (.slice (newP p cap lo sz) (hi - lo) (cap - lo)):=fun a w f=>by
  have:=zzd (P:=P) (p:=p) (len:=k) (w:=w) hu ht h1 h2 hlh hhc
  simp only [execOp,f.ev h0,optEv.map f hl,optEv.map f hh,Option.map_none,Sem.run_bind,this,Result.andThen_ok,Sem.run_pure,newP]
theorem Sl.reslice {r:Rp α} {g:Hp} {p:Option Addr} {cap:Nat} {xs:List α} (s:Sl r g p cap xs) (lo hi:Nat) (hlh:lo≤hi) (hhi:hi≤xs.length):Sl r g (newP p cap lo r.sz) (cap - lo) ((xs.take hi).drop lo):=by
  obtain ⟨h1,h2,h3,h4⟩:=s
  refine ⟨by simp;omega,by omega,?_,fun i x e=> ?_⟩
  · intro e
    unfold newP at e
    split at e
    · omega
    · cases p with
      |none=>have:=h3 rfl;omega
      |some a=>simp at e
  · rw [List.getElem?_drop, List.getElem?_take] at e
    split at e
    · rename_i hlt
      obtain ⟨b,off,γ,e1,e2,e3⟩:=h4 (lo+i) x e
      subst e1
      have hne:¬cap=lo:=by omega
      refine ⟨b,off+lo*r.sz,γ,by simp [newP,hne,Addr.add_lit],?_,e3⟩
      rw [Nat.add_mul,←Nat.add_assoc] at e2;exact e2
    · cases e
theorem zlg {r:Rp α} {p:Option Addr} {cap:Nat} {xs:List α} (i:Nat) (hi:R[i]? =some (slF r p cap xs)) (lo hi':Nat) (hlh:lo≤hi') (hhi:hi'≤xs.length):∀g,Holds g R→∃x:Unit,True∧Holds g [slF r (newP p cap lo r.sz) (cap - lo) ((xs.take hi').drop lo)]:=fun g h=>
  ⟨(),trivial,(Sl.reslice (Holds.get i hi h:Sl r g p cap xs) lo hi' hlh hhi),trivial⟩
theorem newP_zero (p:Option Addr) (cap sz:Nat):newP p cap 0 sz=p:=by
  unfold newP
  split
  · rfl
  · cases p <;> simp [Addr.add]
end
end Go.Proofs.YtpdbimfnhglhpaaGreat.Sp
namespace Go.Proofs.YtpdbimfnhglhpaaGreat.Sp
open Go
set_option linter.unusedVariables false
theorem w64 {a z:Int} (h:a=z∧ -9223372036854775808≤z∧z≤9223372036854775807):IntKind.i64.wrap a=z:=by
  obtain ⟨rfl,h1,h2⟩:=h;rw [IntKind.wrap_i64];omega
theorem wu64m {a z:Int} (h:a%18446744073709551616=z):IntKind.u64.wrap a=z:=by
  subst h;simp [IntKind.wrap,IntKind.bits,IntKind.signed]
theorem wu64 {a z:Int} (h:a=z∧0≤z∧z≤18446744073709551615):IntKind.u64.wrap a=z:=by
  obtain ⟨rfl,h1,h2⟩:=h;simp [IntKind.wrap,IntKind.bits,IntKind.signed];omega
theorem wu32 {a z:Int} (h:a=z∧0≤z∧z≤4294967295):IntKind.u32.wrap a=z:=by
  obtain ⟨rfl,h1,h2⟩:=h;simp [IntKind.wrap,IntKind.bits,IntKind.signed];omega
theorem zHc {z:Int}:InK .i64 z↔ -9223372036854775808≤z∧z≤9223372036854775807:=by simp [InK,IntKind.min,IntKind.max,IntKind.bits,IntKind.signed]
theorem zy {z:Int}:InK .u32 z↔0≤z∧z≤4294967295:=by simp [InK,IntKind.min,IntKind.max,IntKind.bits,IntKind.signed]
theorem quoN {a b z:Int} (h:0≤a∧0<b) (hz:a / b=z):a.tdiv b=z:=by rw [← hz];exact Int.tdiv_eq_ediv_of_nonneg h.1
theorem remN {a b z:Int} (h:0≤a∧0<b) (hz:a%b=z):a.tmod b=z:=by rw [← hz];exact Int.tmod_eq_emod_of_nonneg h.1
theorem SubM.n {m:Fm}:SubM [] m:=trivial
theorem SubM.c {m l:Fm} {t:Nat} {v:Value} (h:Sp.lk m t=some v) (k:SubM l m):SubM ((t,v) :: l) m:=⟨h,k⟩
theorem SubM.e {m l:Fm} {t:Nat} {v v':Value} (h:Sp.lk m t=some v') (e:v'=v) (k:SubM l m):SubM ((t,v) :: l) m:=⟨by rw [h,e],k⟩
theorem SelR.n {R:List Fa}:SelR [] R []:=trivial
theorem SelR.c {R R':List Fa} {j:Nat} {js:List Nat} {r:Fa} (h:R[j]? =some r) (k:SelR js R R'):SelR (j :: js) R (r :: R'):=⟨h,k⟩
theorem SelR.e {R R':List Fa} {j:Nat} {js:List Nat} {r r':Fa} (h:R[j]? =some r') (e:r'=r) (k:SelR js R R'):SelR (j :: js) R (r :: R'):=⟨by rw [h,e],k⟩
def PickO (is:List Nat) (O O':List As):Prop:=pickO is O=some O'
theorem PickO.n {O:List As}:PickO [] O []:=rfl
theorem PickO.c {O O':List As} {i:Nat} {is:List Nat} {A:As} (h:O[i]? =some A) (k:PickO is (O.eraseIdx i) O'):PickO (i :: is) O (A :: O'):=by
  unfold PickO at *;simp only [pickO,h,k]
theorem PickO.e {O O':List As} {i:Nat} {is:List Nat} {A A':As} (h:O[i]? =some A') (e:A'=A) (k:PickO is (O.eraseIdx i) O'):PickO (i :: is) O (A :: O'):=PickO.c (h.trans (congrArg some e)) k
def lkAll (m:Fm):List Nat→List (Option Value)
  |[]=>[]
  |t :: ts=>Sp.lk m t :: lkAll m ts
theorem SubM.of {m:Fm}:∀{l:Fm},lkAll m (l.map Prod.fst)=l.map (fun p=>some p.2)→SubM l m
  |[],_=>trivial
  |(t,v) :: l,h=>by
    simp only [List.map_cons,lkAll,List.cons.injEq] at h
    exact ⟨h.1,SubM.of h.2⟩
def atAll (R:List Fa):List Nat→List (Option Fa)
  |[]=>[]
  |j :: js=>R[j]? :: atAll R js
theorem SelR.of {R:List Fa}:∀(js:List Nat) {R':List Fa},atAll R js=R'.map some→SelR js R R'
  |[],[],_=>trivial
  |[],_ :: _,h=>by simp [atAll] at h
  |_ :: _,[],h=>by simp [atAll] at h
  |j :: js,r :: R',h=>by
    simp only [List.map_cons,atAll,List.cons.injEq] at h
    exact ⟨h.1,SelR.of js h.2⟩
theorem PickO.of {O O':List As} (is:List Nat) (h:pickO is O=some O'):PickO is O O':=h
theorem evs.n {m:Fm}:evs m [] []:=trivial
theorem evs.c {m:Fm} {x:Operand} {v:Value} {xs:List Operand} {vs:List Value} (h:evo m x=some v) (k:evs m xs vs):evs m (x :: xs) (v :: vs):=⟨h,k⟩
theorem evp.n {m:Fm}:evp m [] []:=trivial
theorem evp.c {m:Fm} {i:Nat} {x:Operand} {v:Value} {xs:List (Nat×Operand)} {vs:List (Nat×Value)} (h:evo m x=some v) (k:evp m xs vs):evp m ((i,x) :: xs) ((i,v) :: vs):=⟨rfl,h,k⟩
theorem Fill.n {place:Nat→Option (Nat×Nat)} {cells:List Value}:Fill place cells [] cells:=rfl
theorem Fill.c {place:Nat→Option (Nat×Nat)} {cells cells1 news out:List Value} {i off size:Nat} {v:Value} {rest:List (Nat×Value)} (h1:place i=some (off,size)) (h2:v.cells=news.toArray) (h3:news.length=size) (h4:Upd cells off news cells1) (k:Fill place cells1 rest out):Fill place cells ((i,v) :: rest) out:=
  ⟨off,size,news,cells1,h1,h2,h3,h4,k⟩
theorem Places.n {P:Program}:Places P [] []:=trivial
theorem Places.c {P:Program} {f:Field} {fs:List Field} {s:Nat} {ps:List (Nat×Nat)} (h:(P.info? f.type).map (·.size)=some s) (k:Places P fs ps):Places P (f :: fs) ((f.offset,s) :: ps):=⟨rfl,h,k⟩
theorem optEv.n {m:Fm}:optEv m none none:=rfl
theorem optEv.s {m:Fm} {x:Operand} {u:Value} (h:evo m x=some u):optEv m (some x) (some u):=⟨u,rfl,h⟩
section
variable {P : Program} {Q : Exit → Act → World → Prop} {c : Cx} {n : Sz} {ro : Option Nat} {ops : Array Oper} {l : List Oper} {o : Oper} {m : Fm} {O : List As} {R : List Fa}
variable {d : Option Tmp} {ty : TypeId} {ps : String} {af : Array Edge} {gd : Option (Nat × Bool)} {α : Type}
theorem zga {op:Op} {t0:Tmp} {p:Prop} [Decidable p] (hw:wnt ops m ⟨some t0,op,ty,ps,af,gd⟩=some true) (hd:Nat.ble (t0+1) n.sz=true) (h:PV P n ⟨some t0,op,ty,ps,af,gd⟩ m (.bool (decide p))) (t:p→RunL (ro:=ro) P ops Q c n l ((t0,.bool true) :: m) O R) (f:¬p→RunL (ro:=ro) P ops Q c n l ((t0,.bool false) :: m) O R):RunL (ro:=ro) P ops Q c n (⟨some t0,op,ty,ps,af,gd⟩ :: l) m O R:=by
  by_cases hp:p
  · have : decide p = true := by simp [hp]
    rw [this] at h
    exact r_pv hw hd h (t hp)
  · have : decide p = false := by simp [hp]
    rw [this] at h
    exact r_pv hw hd h (f hp)
theorem r_pv_b {op:Op} {t0:Tmp} {b:Bool} (hw:wnt ops m ⟨some t0,op,ty,ps,af,gd⟩=some true) (hd:Nat.ble (t0+1) n.sz=true) (h:PV P n ⟨some t0,op,ty,ps,af,gd⟩ m (.bool b)) (t:b=true→RunL (ro:=ro) P ops Q c n l ((t0,.bool true) :: m) O R) (f:b=false→RunL (ro:=ro) P ops Q c n l ((t0,.bool false) :: m) O R):RunL (ro:=ro) P ops Q c n (⟨some t0,op,ty,ps,af,gd⟩ :: l) m O R:=by
  cases b
  · exact r_pv hw hd h (f rfl)
  · exact r_pv hw hd h (t rfl)
theorem zDe {x:Operand} {b:Bool} {y z:Code} (e:evo m x=some (.bool b)) (h:b=true) (k:RunC (ro:=ro) P Q c n y m O R):RunC (ro:=ro) P Q c n (.cond x y z) m O R:=zXa e (fun _=>k) (fun h'=>by rw [h] at h';cases h')
theorem zoa {x:Operand} {b:Bool} {y z:Code} (e:evo m x=some (.bool b)) (h:b=false) (k:RunC (ro:=ro) P Q c n z m O R):RunC (ro:=ro) P Q c n (.cond x y z) m O R:=zXa e (fun h'=>by rw [h] at h';cases h') (fun _=>k)
theorem Ef.weakR {R':List Fa} {O:List As} {Y:Type} {φ:Y→Prop} {val:Y→Value} {O':Y→List As} {R'':Y→List Fa} {js:List Nat} (hs:SelR js R R') (h:Ef P n o m O R' φ val O' R''):Ef P n o m O R φ val O' R'':=
  fun a f w hh g s r ap h1 h2 K Q hK=>h a f w hh g s (hs.holds r) ap h1 h2 K Q hK
theorem zsc {t0:Tmp} {fo:Operand} {xs:List Operand} {ats:Array TypeId} {f:Nat} {first cap vs:List Value} {R':List Fa} {js:List Nat} {Y:Type} {φ:Y→Prop} {val:Y→Value} {O':Y→List As} {R'':Y→List Fa}
    (hw:wnt ops m ⟨some t0,.call ⟨.value fo,xs.toArray,ats⟩,ty,ps,af,gd⟩=some true) (hd:Nat.ble (t0+1) n.sz=true) (hf:evo m fo=some (.func (.func f) first.toArray cap.toArray)) (hx:evs m xs vs) (hc:CanEnter P f)
    (h:Con P f (first++vs++cap) [] R' φ val O' R'') (hs:SelR js R R')
    (k:∀y,φ y→RunL (ro:=ro) P ops Q c n l ((t0,val y) :: m) (O' y++O) (R'' y++R)):RunL (ro:=ro) P ops Q c n (⟨some t0,.call ⟨.value fo,xs.toArray,ats⟩,ty,ps,af,gd⟩ :: l) m O R:=
  zma hw hd (Ef.weakR hs (zCc hf hx hc h)) k
theorem zm {t0:Tmp} {xs:List Operand} {ats:Array TypeId} {f:Nat} {vs:List Value} {R':List Fa} {js:List Nat} {Y:Type} {φ:Y→Prop} {val:Y→Value} {O':Y→List As} {R'':Y→List Fa}
    (hw:wnt ops m ⟨some t0,.call ⟨.value (.func f),xs.toArray,ats⟩,ty,ps,af,gd⟩=some true) (hd:Nat.ble (t0+1) n.sz=true) (hx:evs m xs vs) (hc:CanEnter P f)
    (h:Con P f vs [] R' φ val O' R'') (hs:SelR js R R')
    (k:∀y,φ y→RunL (ro:=ro) P ops Q c n l ((t0,val y) :: m) (O' y++O) (R'' y++R)):RunL (ro:=ro) P ops Q c n (⟨some t0,.call ⟨.value (.func f),xs.toArray,ats⟩,ty,ps,af,gd⟩ :: l) m O R:=
  zsc (first:=[]) (cap:=[]) hw hd rfl hx hc (by simpa using h) hs k
theorem zR {t0:Tmp} {xs:List Operand} {ats:Array TypeId} {f:Nat} {vs:List Value} {R':List Fa} {js:List Nat} {v:Value}
    (hw:wnt ops m ⟨some t0,.call ⟨.value (.func f),xs.toArray,ats⟩,ty,ps,af,gd⟩=some true) (hd:Nat.ble (t0+1) n.sz=true) (hx:evs m xs vs) (hc:CanEnter P f)
    (h:Con P f vs [] R' (Y:=Unit) (fun _=>True) (fun _=>v) (fun _=>[]) (fun _=>[])) (hs:SelR js R R')
    (k:RunL (ro:=ro) P ops Q c n l ((t0,v) :: m) O R):RunL (ro:=ro) P ops Q c n (⟨some t0,.call ⟨.value (.func f),xs.toArray,ats⟩,ty,ps,af,gd⟩ :: l) m O R:=
  zm hw hd hx hc h hs (fun _ _=>k)
theorem Sl.cap_le {r:Rp α} {g:Hp} {p:Option Addr} {cap:Nat} {xs:List α} (s:Sl r g p cap xs):cap≤9223372036854775807:=by
  have:=s.2.1;unfold maxLen at this;omega
theorem zP {x:Code} {r:Rp α} {p:Option Addr} {cap:Nat} {xs:List α} (i:Nat) (hi:R[i]? =some (slF r p cap xs)) (k:xs.length≤cap∧cap≤9223372036854775807→RunC (ro:=ro) P Q c n x m O R):RunC (ro:=ro) P Q c n x m O R:=
  zvf (fun g h=>⟨(Holds.get i hi h:Sl r g p cap xs).1,(Holds.get i hi h:Sl r g p cap xs).cap_le⟩) k
theorem zub {t e:TypeId} {x:Operand} {xh:Option Operand} {vhi:Option Value} {sz hi k cap:Nat} {p:Option Addr} (hu:P.underlying t=some (.slice e)) (ht:(P.info? e).map (·.size)=some sz) (h0:evo m x=some (.slice p k cap)) (hh:optEv m xh vhi)
    (h2:(vhi=none∧hi=k)∨∃k,vhi=some (.int k (hi:Int))) (hhc:hi≤cap):
    PV P n ⟨d,.slice t x none xh none,ty,ps,af,gd⟩ m (.slice p hi cap):=by
  have:=zCe (P:=P) (n:=n) (m:=m) (d:=d) (ty:=ty) (ps:=ps) (af:=af) (gd:=gd) (lo:=0) hu ht h0 .n hh (.inl ⟨rfl,rfl⟩) h2 (Nat.zero_le _) hhc
  rw [newP_zero] at this
  exact this
theorem zWb {r:Rp α} {p:Option Addr} {cap:Nat} {xs:List α} (i:Nat) (hi:R[i]? =some (slF r p cap xs)) (hi':Nat) (hhi:hi'≤xs.length):∀g,Holds g R→∃x:Unit,True∧Holds g [slF r p cap (xs.take hi')]:=fun g h=>
  ⟨(),trivial,by have:=Sl.reslice (Holds.get i hi h:Sl r g p cap xs) 0 hi' (Nat.zero_le _) hhi;rw [newP_zero] at this;exact this,trivial⟩
theorem gD {xs:List α} {j:Nat} {d:α} (h:j<xs.length):xs[j]? =some (xs.getD j d):=by simp [List.getD,List.getElem?_eq_getElem h]
theorem zOa {x:Code} {sz:Nat} {enc:α→List Value} {ok:α→Prop} {h1 h2} {p:Option Addr} {cap:Nat} {xs:List α} (i:Nat) (hi:R[i]? =some (slF (fl sz enc ok h1 h2) p cap xs)) (k:(∀x∈xs,ok x)→RunC (ro:=ro) P Q c n x m O R):RunC (ro:=ro) P Q c n x m O R:=
  zvf (p:=∀x∈xs,ok x) (fun g h y hy=>by
    obtain ⟨j,hj⟩:=List.getElem?_of_mem hy
    obtain ⟨_,_,_,_,_,e⟩:=(Holds.get i hi h:Sl (fl sz enc ok h1 h2) g p cap xs).2.2.2 j y hj
    exact e) k
def PartsFl (m:Fm) (R:List Fa) (sz:Nat) (enc:α→List Value) (ok:α→Prop):Nat→List (Nat×Operand)→List (Nat×Value)→List α→Prop
  |_,[],[],[]=>True
  |i,(i1,x0) :: xs,(i2,v) :: vs,x :: es=>i1=i∧i2=i∧evo m x0=some v∧v.cells=(enc x).toArray∧(∀g,Holds g R→ok x)∧PartsFl m R sz enc ok (i+1) xs vs es
  |_,_,_,_=>False
theorem PartsFl.evp {sz:Nat} {enc:α→List Value} {ok:α→Prop}:∀{i:Nat} {xs:List (Nat×Operand)} {vs:List (Nat×Value)} {es:List α},PartsFl m R sz enc ok i xs vs es→evp m xs vs
  |_,[],[],[],_=>trivial
  |_,(_,_) :: _,(_,_) :: _,_ :: _,⟨h1,h2,h,_,_,k⟩=>⟨h1.trans h2.symm,h,PartsFl.evp k⟩
theorem PartsFl.fill {sz:Nat} {enc:α→List Value} {ok:α→Prop} (hl:∀x,(enc x).length=sz):∀{i:Nat} {xs:List (Nat×Operand)} {vs:List (Nat×Value)} {es:List α},PartsFl m R sz enc ok i xs vs es→∀(pre rest:List Value),pre.length=i*sz→rest.length=es.length*sz→
    Fill (fun i=>some (i*sz,sz)) (pre++rest) vs (pre++es.flatMap enc)
  |_,[],[],[],_,pre,rest,hp,hr=>by
    have:rest=[]:=List.eq_nil_of_length_eq_zero (by simpa using hr)
    subst this;rfl
  |i,(_,_) :: _,(_,_) :: _,x :: es,⟨h1,h2,h,hv,_,k⟩,pre,rest,hp,hr=>by
    subst h2
    refine ⟨_*sz,sz,enc x,pre++(enc x++rest.drop sz),rfl,hv,hl x,⟨?_,?_⟩,?_⟩
    · simp only [List.length_append,hp,hl,hr,List.length_cons,Nat.succ_mul];omega
    · rw [hl, ← hp, List.take_left, List.drop_append]
      have:pre.drop (pre.length+sz)=[]:=List.drop_eq_nil_of_le (by omega)
      rw [this,List.nil_append,show pre.length+sz - pre.length=sz by omega,List.append_assoc]
    · have := PartsFl.fill hl k (pre ++ enc x) (rest.drop sz) (by rw [List.length_append, hp, hl, Nat.succ_mul]) (by rw [List.length_drop, hr, List.length_cons, Nat.succ_mul]; omega)
      simpa [List.append_assoc] using this
theorem PartsFl.els {sz:Nat} {enc:α→List Value} {ok:α→Prop} {h1 h2} {g:Hp} (hr:Holds g R) (hl:∀x,(enc x).length=sz):∀{i:Nat} {xs:List (Nat×Operand)} {vs:List (Nat×Value)} {es:List α},PartsFl m R sz enc ok i xs vs es→Els (fl sz enc ok h1 h2) g (es.flatMap enc) 0 es
  |_,[],[],[],_=>fun i x e=>by simp at e
  |_,(_,_) :: _,(_,_) :: _,x :: es,⟨_,_,h,hv,hok,k⟩=>fun i y e=>by
    cases i with
    |zero=>
      simp at e;subst e
      refine ⟨(),⟨hl x,fun j v ev=> ?_⟩,hok g hr⟩
      have ev':(enc x)[j]? =some v:=ev
      have hj:=(List.getElem?_eq_some_iff.1 ev').1
      simp only [List.flatMap_cons,Nat.zero_mul,Nat.zero_add]
      rw [List.getElem?_append_left hj];exact ev'
    |succ i=>
      obtain ⟨γ,a1,a2⟩:=PartsFl.els (h1:=h1) (h2:=h2) hr hl k i y (by simpa using e)
      refine ⟨γ,⟨a1.1,fun j v ev=> ?_⟩,a2⟩
      have:=a1.2 j v ev
      simp only [List.flatMap_cons]
      have hsz:(fl sz enc ok h1 h2).sz=sz:=rfl
      rw [hsz] at this ⊢
      rw [List.getElem?_append_right (by rw [hl,Nat.succ_mul];omega),hl]
      rw [show 0+(i+1)*sz+j - sz=0+i*sz+j by rw [Nat.succ_mul];omega];exact this
theorem PartsFl.len {sz:Nat} {enc:α→List Value} {ok:α→Prop} (hl:∀x,(enc x).length=sz):∀{i:Nat} {xs:List (Nat×Operand)} {vs:List (Nat×Value)} {es:List α},PartsFl m R sz enc ok i xs vs es→(es.flatMap enc).length=es.length*sz
  |_,[],[],[],_=>by simp
  |_,(_,_) :: _,(_,_) :: _,_ :: es,⟨_,_,h,hv,hok,k⟩=>by
    have:=PartsFl.len hl k
    simp only [List.flatMap_cons,List.length_append,hl,this,List.length_cons,Nat.succ_mul];omega
theorem zda {t e:TypeId} {bytes k sz:Nat} {enc:α→List Value} {ok:α→Prop} {h1 h2} {z:Value} {parts:List (Nat×Operand)} {vs:List (Nat×Value)} {xs:List α} (hu:P.underlying t=some (.slice e)) (hI:Inf P e sz bytes z) (hzs:z.cells.size=sz) (hk:k*sz≤16777216) (hpos:0<k*sz) (hkm:k≤16777216)
    (hp:PartsFl m R sz enc ok 0 parts vs xs) (hlen:xs.length=k:=by rfl):
    Ef P n ⟨d,.buildSlice t k parts.toArray,ty,ps,af,gd⟩ m [] R (Y:=Nat) (fun _=>True) (fun b=> .slice (some ⟨b,0,none⟩) k k) (fun b=>[rowA e (fl sz enc ok h1 h2) (some ⟨b,0,none⟩) k xs]) (fun _=>[]):=by
  subst hlen
  have hfill:=hp.fill h1 [] (madeCells z.cells (xs.length*sz)).toList (by simp) (by simp [size_madeCells])
  simp only [List.nil_append] at hfill
  exact zzb (r:=fl sz enc ok h1 h2) hu hI hzs hk hpos hkm hp.evp hfill rfl (hp.len h1) (fun g hr=>hp.els hr h1)
end
theorem PartsFl.n {α:Type} {m:Fm} {R:List Fa} {sz:Nat} {enc:α→List Value} {ok:α→Prop} {i:Nat}:PartsFl m R sz enc ok i [] [] []:=trivial
theorem PartsFl.c {α:Type} {m:Fm} {R:List Fa} {sz:Nat} {enc:α→List Value} {ok:α→Prop} {i:Nat} {x0:Operand} {v:Value} {x:α} {xs:List (Nat×Operand)} {vs:List (Nat×Value)} {es:List α} (h:evo m x0=some v) (hv:v.cells=(enc x).toArray) (hok:∀g,Holds g R→ok x) (k:PartsFl m R sz enc ok (i+1) xs vs es):PartsFl m R sz enc ok i ((i,x0) :: xs) ((i,v) :: vs) (x :: es):=⟨rfl,rfl,h,hv,hok,k⟩
end Go.Proofs.YtpdbimfnhglhpaaGreat.Sp
namespace Go.Proofs.YtpdbimfnhglhpaaGreat.Sp
open Go
set_option linter.unusedVariables false
def PanicOk (Q:Exit→Act→World→Prop):Prop:=∀ch a d v w,Q (.panic ch) (Act.put a d v) w→Q (.panic ch) a w
theorem PanicOk.then {K:Act→World→Prop} {Q:Exit→Act→World→Prop} (h:PanicOk Q):PanicOk (Exit.then K Q):=fun ch a d v w x=>h ch a d v w x
theorem PanicOk.block {id:Nat} {Q:Exit→Act→World→Prop} (h:PanicOk Q):PanicOk (Exit.inBlock id Q):=fun ch a d v w x=>h ch a d v w x
theorem PanicOk.ret {P:Program} {fn:Func} {c:Cx} {Y:Type} {φ:Y→Prop} {val:Y→Value} {O':Y→List As} {R':Y→List Fa}:PanicOk (Ret P fn c φ val O' R'):=fun ch a d v w x=>by
  obtain ⟨_,y,e,_⟩:=x
  cases e
theorem MemAt.framed {c:Cx} {w:World} {O F:List As} {R:List Fa} {ho hf g:Hp} (hs:Sep g O ho) (hsf:Sep g F hf) (ha:ho.apart hf) (m:MemAt c w (O++F) R (ho.join hf) g)
    {w':World} {O':List As} {R':List Fa} (h:Mem ⟨w,ho,g⟩ w' O' R'):∃h' g',MemAt c w' (O'++F) (R'++R) (h'.join hf) g'∧Sep g' O' h'∧Sep g' F hf∧h'.apart hf∧g.le g':=by
  obtain ⟨h',g',m'⟩:=h
  have hfw:Has w' hf:=fun b o e=>by
    have hw:=m.hasH b o (Hp.le_joinR ha b o e)
    have hlt:=(Array.getElem?_eq_some_iff.1 hw).1
    rw [m'.kept.block b hlt (by rcases ha b with x|x;exact x;rw [x] at e;cases e)]
    exact hw
  have hfg:hf.apart g':=fun b=>by
    cases e:hf b with
    |none=>exact .inl rfl
    |some o=>
      refine .inr ?_
      cases e':g' b with
      |none=>rfl
      |some o'=>
        have hw:=m.hasH b o (Hp.le_joinR ha b o e)
        have hlt:=(Array.getElem?_eq_some_iff.1 hw).1
        have hgn:g b=none:=by
          rcases m.apart b with x|x
          · rw [Hp.le_joinR ha b o e] at x;cases x
          · exact x
        rcases m'.newG b hgn (by rw [e'];simp) with x|x
        · simp only at x;omega
        · rcases ha b with y | y
          · exact absurd y x
          · rw [y] at e;cases e
  have hfh:h'.apart hf:=fun b=>by
    cases e:hf b with
    |none=>exact .inr rfl
    |some o=>
      refine .inl ?_
      cases e':h' b with
      |none=>rfl
      |some o'=>
        have hw:=m.hasH b o (Hp.le_joinR ha b o e)
        have hlt:=(Array.getElem?_eq_some_iff.1 hw).1
        have hdn:ho b=none:=by
          rcases ha b with x|x
          · exact x
          · rw [x] at e;cases e
        have:=m'.newH b hdn (by rw [e'];simp)
        simp only at this
        omega
  have hsf':Sep g' F hf:=Sep.mono m'.le hsf
  refine ⟨h',g',⟨Sep.app m'.sep hsf' hfh,Holds.app m'.holds (Holds.mono m'.le m.holds),Hp.apart_join.2 ⟨m'.apart,hfg⟩,Has.join m'.hasH hfw,m'.hasG,Hp.le_trans m.le m'.le,?_,?_,?_⟩,m'.sep,hsf',hfh,m'.le⟩
  · intro b e n
    by_cases hg:g b=none
    · rcases m'.newG b hg n with x | x
      · exact .inl (Nat.le_trans m.kept.size x)
      · have hj : (ho.join hf) b ≠ none := fun y => x (Hp.join_none.1 y).1
        by_cases hd:c.D b=none
        · exact .inl (m.newH b hd hj)
        · exact .inr hd
    · exact m.newG b e hg
  · intro b e n
    by_cases hh:(ho.join hf) b=none
    · have hj := Hp.join_none.1 hh
      have:h' b≠none:=fun x=>n (Hp.join_none.2 ⟨x,hj.2⟩)
      exact Nat.le_trans m.kept.size (m'.newH b hj.1 this)
    · exact m.newH b e hh
  · refine ⟨m'.kept.os.trans m.kept.os, m'.kept.tape.trans m.kept.tape, m'.kept.output.trans m.kept.output, Nat.le_trans m.kept.size m'.kept.size, fun b hb e => ?_⟩
    have hno:ho b=none:=by
      cases x:ho b with
      |none=>rfl
      |some o=>
        have:=m.newH b e (by rw [Hp.le_joinL _ _ _ _ x];simp)
        omega
    rw [m'.kept.block b (Nat.lt_of_lt_of_le hb m.kept.size) hno]
    exact m.kept.block b hb e
def wpAnyI (P:Program) (ops:Array Oper) (Q:Exit→Act→World→Prop) (S:Array Bool→World→Prop):Nat→Array Bool→Act→World→Prop
  |0,L,a,w=>Region.ready .any ops L=[]∧Q .normal a w
  |k+1,L,a,w=>(Region.ready .any ops L=[]→Q .normal a w)∧∀i∈Region.ready .any ops L,wpOp P ops Q i (fun a' w'=>S (L.setIfInBounds i true) w'∧wpAnyI P ops Q S k (L.setIfInBounds i true) a' w') a w
section
variable {P : Program} {Q : Exit → Act → World → Prop} {ops : Array Oper}
theorem wpAny_of_I {S:Array Bool→World→Prop}:∀(k:Nat) (L:Array Bool) (a:Act) (w:World),wpAnyI P ops Q S k L a w→wpAny P .any ops Q k L a w
  |0,_,_,_,h=>h
  |k+1,_,_,_,h=>⟨h.1,fun i hi=>wpOp_mono (fun a' w' h'=>wpAny_of_I k _ a' w' h'.2) (h.2 i hi)⟩
theorem wpAnyI_strong {S S':Array Bool→World→Prop} (hS:∀L w,S' L w→S L w):∀(k:Nat) (L:Array Bool) (a:Act) (w:World),wpAnyI P ops Q S' k L a w→wpAnyI P ops Q S k L a w
  |0,_,_,_,h=>h
  |k+1,_,_,_,h=>⟨h.1,fun i hi=>wpOp_mono (fun a' w' ⟨h1,h2⟩=>⟨hS _ _ h1,wpAnyI_strong hS k _ _ _ h2⟩) (h.2 i hi)⟩
def Closed (ops:Array Oper) (wi:Nat) (L:Array Bool):Prop:=∀(q:Nat) o,ops[q]? =some o→L.getD q true=true→∀e∈o.after,Region.binds .any e=true→L.getD e.on false=true
theorem getD_set_mono {L:Array Bool} {j q:Nat} (h:L.getD q false=true):(L.setIfInBounds j true).getD q false=true:=by
  simp only [Array.getD_eq_getD_getElem?,Array.getElem?_setIfInBounds] at*
  split
  · split <;> simp_all
  · exact h
theorem Closed.step {wi j:Nat} {L:Array Bool} (h:Closed ops wi L) (hj:j∈Region.ready .any ops L):Closed ops wi (L.setIfInBounds j true):=by
  intro q o ho hw e he hb
  by_cases hjw:j=q
  · subst hjw
    obtain ⟨_,oj,hoj,hall⟩:=mem_ready.1 hj
    rw [ho] at hoj;cases hoj
    exact getD_set_mono (hall e he hb)
  · rw [getD_set_ne true hjw] at hw
    exact getD_set_mono (h q o ho hw e he hb)
theorem wpAnyI_first {i wi:Nat} {oi:Oper} {v:Value} {S:Array Bool→World→Prop} {SI:World→Prop} (hi:ops[i]? =some oi) (hsel:∀(j:Nat) (o:Oper) cs b,ops[j]? =some o→o.op≠ .select cs b)
    (hQ:∀c a w,Q (.panic c) (a.put oi.dst v) w→Q (.panic c) a w) (hSi:∀L w,S (L.setIfInBounds i true) w↔S L w) (hSI:∀L w,Closed ops wi L→L.getD i true=false→S L w→SI w):
    ∀(k:Nat) (L:Array Bool) (a:Act) (w:World),Closed ops wi L→
      (∀j oj,ops[j]? =some oj→j≠i→L.getD j true=false→(∀e∈oj.after,Region.binds .any e=true→e.on≠i)→oi.apart ops oj=true)→
      i∈Region.ready .any ops L→YieldsIf P ops SI oi v a→S L w→
      wpAnyI P ops Q S k (L.setIfInBounds i true) (a.put oi.dst v) w→wpAnyI P ops Q S (k+1) L a w:=by
  intro k
  induction k with
  |zero=>
    intro L a w hcl hfree hr hy hS H
    have hun:L.getD i true=false:=(mem_ready.1 hr).1
    refine ⟨fun h=>(by rw [h] at hr;cases hr),fun j hj=> ?_⟩
    by_cases hji:j=i
    · subst hji;exact hy.wpOp hi (hSI L w hcl hun hS) ⟨(hSi L w).2 hS,H⟩
    · have := ready_mono hj hji
      rw [H.1] at this
      cases this
  |succ k ih=>
    intro L a w hcl hfree hr hy hS H
    have hun0:L.getD i true=false:=(mem_ready.1 hr).1
    refine ⟨fun h=>(by rw [h] at hr;cases hr),fun j hj=> ?_⟩
    by_cases hji:j=i
    · subst hji;exact hy.wpOp hi (hSI L w hcl hun0 hS) ⟨(hSi L w).2 hS,H⟩
    · have h1 := H.2 j (ready_mono hj hji)
      obtain ⟨hjun,oj,hoj,hall⟩:=mem_ready.1 hj
      have hnot:∀e∈oj.after,Region.binds .any e=true→e.on≠i:=fun e he hb heq=>by
        have h1:=hall e he hb
        have h0:=(mem_ready.1 hr).1
        rw [heq] at h1
        rcases Nat.lt_or_ge i L.size with h'|h'
        · simp [h'] at h0 h1;rw [h0] at h1;cases h1
        · simp [Array.getElem?_eq_none h'] at h1
      have h2:=wpOp_putIf hoj (hfree j oj hoj hji hjun hnot) (fun cs b=>hsel i oi cs b hi) (fun cs b=>hsel j oj cs b hoj) hQ hy h1
      have hfree':∀q oq,ops[q]? =some oq→q≠i→(L.setIfInBounds j true).getD q true=false→
          (∀e∈oq.after,Region.binds .any e=true→e.on≠i)→oi.apart ops oq=true:=fun q oq hoq hqi hun hno=>by
        refine hfree q oq hoq hqi ?_ hno
        by_cases hjq:j=q
        · subst hjq;exact hjun
        · rw [getD_set_ne true hjq] at hun;exact hun
      refine wpOp_mono (fun a' w' h3=> ?_) h2
      have hSj:S (L.setIfInBounds j true) w':=(hSi _ _).1 (by rw [Array.setIfInBounds_comm _ _ hji];exact h3.2.1)
      refine ⟨hSj,ih (L.setIfInBounds j true) a' w' (hcl.step hj) hfree' (ready_mono hr (Ne.symm hji)) h3.1 hSj ?_⟩
      rw [Array.setIfInBounds_comm _ _ hji]
      exact h3.2.2
end
def depF (ops:Array Oper):Nat→Nat→Nat→Bool
  |0,_,_=>false
  |f+1,w,i=>match ops[w]? with
    |some o=>o.after.any fun e=>Region.binds .any e&&(e.on == i||depF ops f e.on i)
    |none=>false
def depB (ops:Array Oper) (wi i:Nat):Bool:=depF ops 6 wi i
theorem getD_false_true {L:Array Bool} {i:Nat} (h:L.getD i false=true):L.getD i true=true:=by
  rcases Nat.lt_or_ge i L.size with h'|h' <;> simp_all [Array.getD_eq_getD_getElem?]
theorem depF_sound {ops:Array Oper} {wi i:Nat} {L:Array Bool} (hc:Closed ops wi L):∀(f w:Nat),L.getD w true=true→depF ops f w i=true→L.getD i false=true
  |0,_,_,h=>by simp [depF] at h
  |f+1,w,hw,h=>by
    simp only [depF] at h
    cases ho:ops[w]? with
    |none=>rw [ho] at h;cases h
    |some ow=>
      rw [ho] at h
      obtain ⟨e,he,hb⟩:=Array.any_eq_true'.1 h
      simp only [Bool.and_eq_true,Bool.or_eq_true,beq_iff_eq] at hb
      have h1:=hc w ow ho hw e he hb.1
      rcases hb.2 with h2|h2
      · rw [← h2];exact h1
      · exact depF_sound hc f e.on (getD_false_true h1) h2
section
variable {P : Program} {Q : Exit → Act → World → Prop} {c : Cx} {n : Sz} {ro : Option Nat} {ops : Array Oper} {o : Oper} {m m' : Fm} {OW O O' OW' : List As} {R R' : List Fa} {k wi : Nat} {L : Array Bool}
def SL (wi:Nat) (hw hr g:Hp):Array Bool→World→Prop:=fun L w=>Has w hr∧Has w g∧(L.getD wi true=false→Has w hw)
def RunD (P:Program) (ops:Array Oper) (Q:Exit→Act→World→Prop) (c:Cx) (n:Sz) (wi k:Nat) (L:Array Bool) (m:Fm) (OW O:List As) (R:List Fa):Prop:=
  PanicOk Q→Region.noSelect ops=true→Closed ops wi L→∀a w hw hr g,Fr n a m→Sep g OW hw→Sep g O hr→hw.apart hr→MemAt c w (OW++O) R (hw.join hr) g→wpAnyI P ops Q (SL wi hw hr g) k L a w
def RunO (P:Program) (ops:Array Oper) (Q:Exit→Act→World→Prop) (c:Cx) (n:Sz) (wi k:Nat) (L:Array Bool) (i:Nat) (m:Fm) (OW O:List As) (R:List Fa):Prop:=
  PanicOk Q→Region.noSelect ops=true→Closed ops wi L→i∈Region.ready .any ops L→∀a w hw hr g,Fr n a m→Sep g OW hw→Sep g O hr→hw.apart hr→MemAt c w (OW++O) R (hw.join hr) g→
    wpOp P ops Q i (fun a' w'=>SL wi hw hr g (L.setIfInBounds i true) w'∧wpAnyI P ops Q (SL wi hw hr g) k (L.setIfInBounds i true) a' w') a w
theorem MemAt.drew {w:World} {O:List As} {h g:Hp} (m:MemAt c w O R h g):MemAt c w.drew O R h g:=
  ⟨m.sep,m.holds,m.apart,m.hasH,m.hasG,m.le,m.newG,m.newH,⟨m.kept.os,m.kept.tape,m.kept.output,m.kept.size,m.kept.block⟩⟩
theorem zW (wi:Nat) {id:Nat} {l:List Oper} (hm:P.follows .mixedOrders=true) (hQ:PanicOk Q) (hs:Region.noSelect l.toArray=true) (h:RunD P l.toArray Q c n wi l.length (Array.replicate l.length false) m OW O R):RunC (ro:=none) P Q c n (.region id l.toArray true) m (OW++O) R:=by
  intro a w f mm
  obtain ⟨hh,g,mm⟩:=mm
  obtain ⟨hw,hr,ap,e,s1,s2⟩:=Sep.split mm.sep
  subst e
  have hcl:Closed l.toArray wi (Array.replicate l.length false):=by
    intro q o ho ht
    have hsz:q<l.length:=by simpa using (Array.getElem?_eq_some_iff.1 ho).1
    simp [Array.getD_eq_getD_getElem?,hsz] at ht
  have:=h hQ hs hcl a w.drew hw hr g f s1 s2 ap mm.drew
  have h2:=wpAny_of_I _ _ _ _ this
  refine wpIn_wide.2 (wp_region_any hm ?_)
  simpa using h2
theorem SL.set {i wi:Nat} (hne:i≠wi) (hw hr g:Hp) (L:Array Bool) (w:World):SL wi hw hr g (L.setIfInBounds i true) w↔SL wi hw hr g L w:=by
  unfold SL;rw [getD_set_ne true hne]
theorem RunD.take {i:Nat} {a:Act} {w:World} {hw hr g:Hp} {v:Value} (hs:Region.noSelect ops=true) (hcl:Closed ops wi L) (hQ:PanicOk Q) (hi:ops[i]? =some o) (hne:Nat.beq i wi=false) (hf:Region.free .any ops L i=true) (hr':(Region.ready .any ops L).contains i=true)
    (hy:YieldsIf P ops (fun w'=>Has w' hr∧Has w' g) o v a) (hS:SL wi hw hr g L w) (k':wpAnyI P ops Q (SL wi hw hr g) k (L.setIfInBounds i true) (a.put o.dst v) w):
    wpAnyI P ops Q (SL wi hw hr g) (k+1) L a w:=
  wpAnyI_first (SI:=fun w'=>Has w' hr∧Has w' g) (wi:=wi) hi (Region.noSelect_spec hs) (fun c a w=>hQ c a o.dst v w) (fun L w=>SL.set (fun e=>by subst e;simp [Nat.beq_refl] at hne) hw hr g L w) (fun L w _ _ h=>⟨h.1,h.2.1⟩) k L a w hcl (Region.free_spec hi hf) (by simpa using hr') hy hS k'
theorem RunD.takeW {i:Nat} {a:Act} {w:World} {hw hr g:Hp} {v:Value} (hs:Region.noSelect ops=true) (hcl:Closed ops wi L) (hQ:PanicOk Q) (hi:ops[i]? =some o) (hne:Nat.beq i wi=false) (hdep:depB ops wi i=true) (hf:Region.free .any ops L i=true) (hr':(Region.ready .any ops L).contains i=true)
    (hy:YieldsIf P ops (fun w'=>Has w' hr∧Has w' g∧Has w' hw) o v a) (hS:SL wi hw hr g L w) (k':wpAnyI P ops Q (SL wi hw hr g) k (L.setIfInBounds i true) (a.put o.dst v) w):
    wpAnyI P ops Q (SL wi hw hr g) (k+1) L a w:=by
  refine wpAnyI_first (SI:=fun w'=>Has w' hr∧Has w' g∧Has w' hw) (wi:=wi) (S:=SL wi hw hr g) hi (Region.noSelect_spec hs) (fun c a w=>hQ c a o.dst v w) (fun L w=>SL.set (fun e=>by subst e;simp [Nat.beq_refl] at hne) hw hr g L w) (fun L' w hc hu h=>⟨h.1,h.2.1,h.2.2 ?_⟩) k L a w hcl (Region.free_spec hi hf) (by simpa using hr') hy hS k'
  cases hwi:L'.getD wi true with
  |false=>rfl
  |true=>
    exfalso
    have this:=depF_sound hc 6 wi hwi hdep
    rcases Nat.lt_or_ge i L'.size with h'|h'
    · simp [h'] at this hu
      rw [this] at hu;cases hu
    · simp [Array.getElem?_eq_none h'] at hu
section
variable {op : Op} {t0 : Tmp} {ty : TypeId} {ps : String} {af : Array Edge} {gd : Option (Nat × Bool)}
theorem d_pv (i:Nat) (hi:ops[i]? =some ⟨some t0,op,ty,ps,af,gd⟩) (hne:Nat.beq i wi=false) (hf:Region.free .any ops L i=true) (hr':(Region.ready .any ops L).contains i=true) (hw':wnt ops m ⟨some t0,op,ty,ps,af,gd⟩=some true) (hd:Nat.ble (t0+1) n.sz=true) {v:Value} (h:PV P n ⟨some t0,op,ty,ps,af,gd⟩ m v)
    (kont:RunD P ops Q c n wi k (L.setIfInBounds i true) ((t0,v) :: m) OW O R):RunD P ops Q c n wi (k+1) L m OW O R:=fun hQ hs hcl a w hw hr g f s1 s2 ap mm=>
  RunD.take hs hcl hQ hi hne hf hr' (.inl ⟨f.wanted hw',fun w' _=>h a w' f⟩) ⟨Has.mono mm.hasH (Hp.le_joinR ap),mm.hasG,fun _=>Has.mono mm.hasH (Hp.le_joinL _ _)⟩ (kont hQ hs (hcl.step (by simpa using hr')) _ w hw hr g (f.put (d:=some t0) hd v) s1 s2 ap mm)
theorem d_skip (i:Nat) (hi:ops[i]? =some ⟨some t0,op,ty,ps,af,gd⟩) (hne:Nat.beq i wi=false) (hf:Region.free .any ops L i=true) (hr':(Region.ready .any ops L).contains i=true) (hw':wnt ops m ⟨some t0,op,ty,ps,af,gd⟩=some false) (hd:Nat.ble (t0+1) n.sz=true)
    (kont:RunD P ops Q c n wi k (L.setIfInBounds i true) ((t0,undef) :: m) OW O R):RunD P ops Q c n wi (k+1) L m OW O R:=fun hQ hs hcl a w hw hr g f s1 s2 ap mm=>
  RunD.take hs hcl hQ hi hne hf hr' (.inr ⟨f.wanted hw',rfl⟩) ⟨Has.mono mm.hasH (Hp.le_joinR ap),mm.hasG,fun _=>Has.mono mm.hasH (Hp.le_joinL _ _)⟩ (kont hQ hs (hcl.step (by simpa using hr')) _ w hw hr g (f.put (d:=some t0) hd _) s1 s2 ap mm)
theorem zEe (i:Nat) {p:Prop} [Decidable p] (hi:ops[i]? =some ⟨some t0,op,ty,ps,af,gd⟩) (hne:Nat.beq i wi=false) (hf:Region.free .any ops L i=true) (hr':(Region.ready .any ops L).contains i=true) (hw':wnt ops m ⟨some t0,op,ty,ps,af,gd⟩=some true) (hd:Nat.ble (t0+1) n.sz=true) (h:PV P n ⟨some t0,op,ty,ps,af,gd⟩ m (.bool (decide p)))
    (t:p→RunD P ops Q c n wi k (L.setIfInBounds i true) ((t0,.bool true) :: m) OW O R) (e:¬p→RunD P ops Q c n wi k (L.setIfInBounds i true) ((t0,.bool false) :: m) OW O R):RunD P ops Q c n wi (k+1) L m OW O R:=by
  by_cases hp:p
  · have : decide p = true := by simp [hp]
    rw [this] at h
    exact d_pv i hi hne hf hr' hw' hd h (t hp)
  · have : decide p = false := by simp [hp]
    rw [this] at h
    exact d_pv i hi hne hf hr' hw' hd h (e hp)
theorem d_vl (i:Nat) (hi:ops[i]? =some ⟨some t0,op,ty,ps,af,gd⟩) (hne:Nat.beq i wi=false) (hf:Region.free .any ops L i=true) (hr':(Region.ready .any ops L).contains i=true) (hw':wnt ops m ⟨some t0,op,ty,ps,af,gd⟩=some true) (hd:Nat.ble (t0+1) n.sz=true) {Y:Type} {φ:Y→Prop} {val:Y→Value} {R':Y→List Fa} (h:Vl P n ⟨some t0,op,ty,ps,af,gd⟩ m O R φ val R')
    (kont:∀y,φ y→RunD P ops Q c n wi k (L.setIfInBounds i true) ((t0,val y) :: m) OW O (R' y++R)):RunD P ops Q c n wi (k+1) L m OW O R:=fun hQ hs hcl a w hw hr g f s1 s2 ap mm=>by
  obtain ⟨y,hy,hR,hrun⟩:=h a f hr g s2 mm.holds
  exact RunD.take hs hcl hQ hi hne hf hr' (.inl ⟨f.wanted hw',fun w' hS=>hrun w' hS.1 hS.2⟩) ⟨Has.mono mm.hasH (Hp.le_joinR ap),mm.hasG,fun _=>Has.mono mm.hasH (Hp.le_joinL _ _)⟩
    (kont y hy hQ hs (hcl.step (by simpa using hr')) _ w hw hr g (f.put (d:=some t0) hd _) s1 s2 ap ⟨mm.sep,Holds.app hR mm.holds,mm.apart,mm.hasH,mm.hasG,mm.le,mm.newG,mm.newH,mm.kept⟩)
theorem zvb (i:Nat) (hi:ops[i]? =some ⟨some t0,op,ty,ps,af,gd⟩) (hne:Nat.beq i wi=false) (hdep:depB ops wi i=true) (hf:Region.free .any ops L i=true) (hr':(Region.ready .any ops L).contains i=true) (hw':wnt ops m ⟨some t0,op,ty,ps,af,gd⟩=some true) (hd:Nat.ble (t0+1) n.sz=true) {Y:Type} {φ:Y→Prop} {val:Y→Value} {R':Y→List Fa} (h:Vl P n ⟨some t0,op,ty,ps,af,gd⟩ m (OW++O) R φ val R')
    (kont:∀y,φ y→RunD P ops Q c n wi k (L.setIfInBounds i true) ((t0,val y) :: m) OW O (R' y++R)):RunD P ops Q c n wi (k+1) L m OW O R:=fun hQ hs hcl a w hw hr g f s1 s2 ap mm=>by
  obtain ⟨y,hy,hR,hrun⟩:=h a f (hw.join hr) g mm.sep mm.holds
  exact RunD.takeW hs hcl hQ hi hne hdep hf hr' (.inl ⟨f.wanted hw',fun w' hS=>hrun w' (Has.join hS.2.2 hS.1) hS.2.1⟩) ⟨Has.mono mm.hasH (Hp.le_joinR ap),mm.hasG,fun _=>Has.mono mm.hasH (Hp.le_joinL _ _)⟩
    (kont y hy hQ hs (hcl.step (by simpa using hr')) _ w hw hr g (f.put (d:=some t0) hd _) s1 s2 ap ⟨mm.sep,Holds.app hR mm.holds,mm.apart,mm.hasH,mm.hasG,mm.le,mm.newG,mm.newH,mm.kept⟩)
theorem d_u (i:Nat) (hi:ops[i]? =some ⟨some t0,op,ty,ps,af,gd⟩) (hne:Nat.beq i wi=false) (hf:Region.free .any ops L i=true) (hr':(Region.ready .any ops L).contains i=true) (hw':wnt ops m ⟨some t0,op,ty,ps,af,gd⟩=some true) (hd:Nat.ble (t0+1) n.sz=true) {v:Value} (h:Vl P n ⟨some t0,op,ty,ps,af,gd⟩ m O R (Y:=Unit) (fun _=>True) (fun _=>v) (fun _=>[]))
    (kont:RunD P ops Q c n wi k (L.setIfInBounds i true) ((t0,v) :: m) OW O R):RunD P ops Q c n wi (k+1) L m OW O R:=d_vl i hi hne hf hr' hw' hd h (fun _ _=>kont)
theorem d_uw (i:Nat) (hi:ops[i]? =some ⟨some t0,op,ty,ps,af,gd⟩) (hne:Nat.beq i wi=false) (hdep:depB ops wi i=true) (hf:Region.free .any ops L i=true) (hr':(Region.ready .any ops L).contains i=true) (hw':wnt ops m ⟨some t0,op,ty,ps,af,gd⟩=some true) (hd:Nat.ble (t0+1) n.sz=true) {v:Value} (h:Vl P n ⟨some t0,op,ty,ps,af,gd⟩ m (OW++O) R (Y:=Unit) (fun _=>True) (fun _=>v) (fun _=>[]))
    (kont:RunD P ops Q c n wi k (L.setIfInBounds i true) ((t0,v) :: m) OW O R):RunD P ops Q c n wi (k+1) L m OW O R:=zvb i hi hne hdep hf hr' hw' hd h (fun _ _=>kont)
theorem zFa {α:Type} {s e:TypeId} {x ix:Operand} {sz:Nat} {enc:α→List Value} {ok:α→Prop} {h1' h2'} {p:Option Addr} {kk cap:Nat} {ki:IntKind} {z:Int} {xs:List α} {x0:α} (i0:Nat) (hi0:ops[i0]? =some ⟨some t0,.indexAddr s x ix,ty,ps,af,gd⟩) (hne:Nat.beq i0 wi=false) (hf:Region.free .any ops L i0=true) (hr':(Region.ready .any ops L).contains i0=true)
    (i j:Nat) (hi:R[i]? =some (slF (fl sz enc ok h1' h2') p cap xs)) (hu:P.underlying s=some (.slice e)) (ht:(P.info? e).map (·.size)=some sz)
    (hw:wnt ops m ⟨some t0,.indexAddr s x ix,ty,ps,af,gd⟩=some true) (hd:Nat.ble (t0+1) n.sz=true) (h1:evo m x=some (.slice p kk cap)) (hk:xs.length=kk) (h2:evo m ix=some (.int ki z)) (hz:z=(j:Int)) (hx:xs[j]? =some x0)
    (kont:∀b o,ok x0→RunD P ops Q c n wi k (L.setIfInBounds i0 true) ((t0,.pointer (some ⟨b,o,none⟩)) :: m) OW O (atF b o (enc x0) :: R)):RunD P ops Q c n wi (k+1) L m OW O R:=by
  refine d_vl i0 hi0 hne hf hr' hw hd (zQ (P:=P) (r:=fl sz enc ok h1' h2') i j hi hu ht h1 hk h2 hz hx) (fun y _=> ?_)
  intro hQ hs hcl a w hw hr g f s1 s2 ap mm
  have hok:ok x0:=(Holds.get 1 rfl mm.holds:(okF (fl sz enc ok h1' h2') x0 y.2.2).on g)
  exact kont y.1 y.2.1 hok hQ hs hcl a w hw hr g f s1 s2 ap ⟨mm.sep,⟨mm.holds.1,mm.holds.2.2⟩,mm.apart,mm.hasH,mm.hasG,mm.le,mm.newG,mm.newH,mm.kept⟩
end
theorem zIc (i:Nat) (hr:Region.ready .any ops L=[i]) (h:RunO P ops Q c n wi k L i m OW O R):RunD P ops Q c n wi (k+1) L m OW O R:=fun hQ hs hcl a w hw hr' g f s1 s2 ap mm=>
  ⟨(fun e=>by rw [hr] at e;cases e),fun j hj=>by
    have hj':=hj
    rw [hr] at hj
    have:j=i:=by simpa using hj
    subst this;exact h hQ hs hcl hj' a w hw hr' g f s1 s2 ap mm⟩
theorem zmg (i j:Nat) (hr:Region.ready .any ops L=[i,j]) (h1:RunO P ops Q c n wi k L i m OW O R) (h2:RunO P ops Q c n wi k L j m OW O R):RunD P ops Q c n wi (k+1) L m OW O R:=fun hQ hs hcl a w hw hr' g f s1 s2 ap mm=>
  ⟨(fun e=>by rw [hr] at e;cases e),fun q hq=>by
    have hq':=hq
    rw [hr] at hq
    have:q=i∨q=j:=by simpa using hq
    rcases this with rfl|rfl
    · exact h1 hQ hs hcl hq' a w hw hr' g f s1 s2 ap mm
    · exact h2 hQ hs hcl hq' a w hw hr' g f s1 s2 ap mm⟩
theorem wpAnyI_swap {hw hw' hr g:Hp}:∀(k:Nat) (L:Array Bool) (a:Act) (w:World),L.getD wi true=true→wpAnyI P ops Q (SL wi hw hr g) k L a w→wpAnyI P ops Q (SL wi hw' hr g) k L a w
  |0,_,_,_,_,h=>h
  |k+1,L,_,_,hl,h=>⟨h.1,fun i hi=>wpOp_mono (fun a' w' ⟨h1,h2⟩=>by
      have hl':(L.setIfInBounds i true).getD wi true=true:=by
        simp only [Array.getD_eq_getD_getElem?,Array.getElem?_setIfInBounds] at*
        split
        · split <;> simp_all
        · exact hl
      exact ⟨⟨h1.1,h1.2.1,fun e=>by rw [hl'] at e;cases e⟩,wpAnyI_swap k _ _ _ hl' h2⟩) (h.2 i hi)⟩
theorem o_ef0 {i:Nat} (hne:Nat.beq i wi=false) (hi:ops[i]? =some o) (hw':wnt ops m o=some true) (hd:okT n o.dst=true) {Y:Type} {φ:Y→Prop} {val:Y→Value} {O1:Y→List As} {R1:Y→List Fa} (h:Ef P n o m [] R φ val O1 R1)
    (kont:∀y,φ y→RunD P ops Q c n wi k (L.setIfInBounds i true) (updM m o.dst (val y)) OW (O1 y++O) (R1 y++R)):RunO P ops Q c n wi k L i m OW O R:=fun hQ hs hcl hrd a w hw hr g f s1 s2 ap mm=>by
  unfold wpOp
  simp only [hi]
  rw [if_pos (f.wanted hw')]
  refine .inl<|WpB.wp (h a f w Hp.emp g rfl mm.holds (Hp.emp_apart g) (fun _ _ e=>by cases e) mm.hasG _ _ fun y w' hy hM=> ?_)
  have mm0:MemAt c w ([]++(OW++O)) R (Hp.emp.join (hw.join hr)) g:=by simpa [Hp.emp_join] using mm
  obtain ⟨h',g',mm',sO',sF,ap',le'⟩:=MemAt.framed (O:=[]) (F:=OW++O) rfl mm.sep (Hp.emp_apart _) mm0 hM
  have ap2:=Hp.apart_joinR.1 ap'
  have hasj:Has w' (hw.join hr):=Has.mono mm'.hasH (Hp.le_joinR ap')
  have hasr:Has w' hr:=Has.mono hasj (Hp.le_joinR ap)
  have hnew:i≠wi:=fun e=>by subst e;simp [Nat.beq_refl] at hne
  refine ⟨⟨hasr,Has.mono mm'.hasG le',fun _=>Has.mono hasj (Hp.le_joinL _ _)⟩,?_⟩
  have apn:hw.apart (h'.join hr):=Hp.apart_joinR.2 ⟨Hp.apart_symm ap2.1,ap⟩
  have hsep:Sep g' (O1 y++O) (h'.join hr):=Sep.app sO' (Sep.mono le' s2) ap2.2
  have heq:h'.join (hw.join hr)=hw.join (h'.join hr):=by rw [← Hp.join_assoc,←Hp.join_assoc,Hp.join_comm ap2.1]
  have mm2:MemAt c w' (OW++(O1 y++O)) (R1 y++R) (hw.join (h'.join hr)) g':=by
    rw [heq] at mm'
    exact ⟨Sep.app (Sep.mono le' s1) hsep apn,mm'.holds,mm'.apart,mm'.hasH,mm'.hasG,mm'.le,mm'.newG,mm'.newH,mm'.kept⟩
  exact wpAnyI_strong (S':=SL wi hw (h'.join hr) g') (fun L w2 ⟨x1,x2,x3⟩=>⟨Has.mono x1 (Hp.le_joinR ap2.2),Has.mono x2 le',x3⟩) _ _ _ _ (kont y hy hQ hs (hcl.step hrd) _ w' hw (h'.join hr) g' (f.put hd _) (Sep.mono le' s1) hsep apn mm2)
theorem zQb {i:Nat} {A:As} (hlw:(L.setIfInBounds i true).getD wi true=true) (hi:ops[i]? =some o) (hw':wnt ops m o=some true) (hd:okT n o.dst=true) {Y:Type} {φ:Y→Prop} {val:Y→Value} {A':Y→As} {R1:Y→List Fa} (h:Ef P n o m [A] R φ val (fun y=>[A' y]) R1)
    (kont:∀y,φ y→RunD P ops Q c n wi k (L.setIfInBounds i true) (updM m o.dst (val y)) (A' y :: OW) O (R1 y++R)):RunO P ops Q c n wi k L i m (A :: OW) O R:=fun hQ hs hcl hrd a w hw hr g f s1 s2 ap mm=>by
  unfold wpOp
  simp only [hi]
  rw [if_pos (f.wanted hw')]
  obtain ⟨k1,k2,a12,e,hA,sW⟩:=s1
  subst e
  have hapA:=Hp.apart_join.1 ap
  have hk1:k1.apart g:=(Hp.apart_join.1 (Hp.apart_join.1 mm.apart).1).1
  have hkw:Has w k1:=Has.mono mm.hasH (Hp.le_trans (Hp.le_joinL k1 k2) (Hp.le_joinL _ _))
  have sA:Sep g [A] k1:=⟨k1,Hp.emp,fun _=> .inr rfl,(Hp.join_emp _).symm,hA,rfl⟩
  refine .inl<|WpB.wp (h a f w k1 g sA mm.holds hk1 hkw mm.hasG _ _ fun y w' hy hM=> ?_)
  have apF:k1.apart (k2.join hr):=Hp.apart_joinR.2 ⟨a12,hapA.1⟩
  have hsF:Sep g (OW++O) (k2.join hr):=Sep.app sW s2 hapA.2
  have mm0:MemAt c w ([A]++(OW++O)) R (k1.join (k2.join hr)) g:=by rw [← Hp.join_assoc];exact mm
  obtain ⟨h',g',mm',sO',sF,ap',le'⟩:=MemAt.framed (O:=[A]) (F:=OW++O) sA hsF apF mm0 hM
  have ap2:=Hp.apart_joinR.1 ap'
  have hasj:Has w' (k2.join hr):=Has.mono mm'.hasH (Hp.le_joinR ap')
  have hasr:Has w' hr:=Has.mono hasj (Hp.le_joinR hapA.2)
  refine ⟨⟨hasr,Has.mono mm'.hasG le',fun e=>by rw [hlw] at e;cases e⟩,?_⟩
  obtain ⟨q1,q2,b12,eq,hA',q0⟩:=sO'
  have hq2:q2=Hp.emp:=q0
  subst hq2
  rw [Hp.join_emp] at eq
  subst eq
  have sW':Sep g' (A' y :: OW) (h'.join k2):=⟨h',k2,ap2.1,rfl,hA',Sep.mono le' sW⟩
  have apn:(h'.join k2).apart hr:=Hp.apart_join.2 ⟨ap2.2,hapA.2⟩
  have mm2:MemAt c w' ((A' y :: OW)++O) (R1 y++R) ((h'.join k2).join hr) g':=by
    rw [Hp.join_assoc]
    exact mm'
  refine wpAnyI_swap (hw:=h'.join k2) _ _ _ _ hlw ?_
  exact wpAnyI_strong (S':=SL wi (h'.join k2) hr g') (fun L w2 ⟨x1,x2,x3⟩=>⟨x1,Has.mono x2 le',x3⟩) _ _ _ _ (kont y hy hQ hs (hcl.step hrd) _ w' (h'.join k2) hr g' (f.put hd _) sW' (Sep.mono le' s2) apn mm2)
theorem ztc {i:Nat} {t0:Tmp} {ty:TypeId} {ps:String} {af:Array Edge} {gd:Option (Nat×Bool)} {fo:Operand} {xs:List Operand} {ats:Array TypeId} {f:Nat} {first cap vs:List Value} {R':List Fa} {js:List Nat} {Y:Type} {φ:Y→Prop} {val:Y→Value} {O1:Y→List As} {R1:Y→List Fa}
    (hne:Nat.beq i wi=false) (hi:ops[i]? =some ⟨some t0,.call ⟨.value fo,xs.toArray,ats⟩,ty,ps,af,gd⟩) (hw:wnt ops m ⟨some t0,.call ⟨.value fo,xs.toArray,ats⟩,ty,ps,af,gd⟩=some true) (hd:Nat.ble (t0+1) n.sz=true) (hf:evo m fo=some (.func (.func f) first.toArray cap.toArray)) (hx:evs m xs vs) (hc:CanEnter P f)
    (h:Con P f (first++vs++cap) [] R' φ val O1 R1) (hs:SelR js R R')
    (kont:∀y,φ y→RunD P ops Q c n wi k (L.setIfInBounds i true) ((t0,val y) :: m) OW (O1 y++O) (R1 y++R)):RunO P ops Q c n wi k L i m OW O R:=
  o_ef0 hne hi hw hd (Ef.weakR hs (zCc hf hx hc h)) kont
theorem zB {i:Nat} {t0:Tmp} {ty:TypeId} {ps:String} {af:Array Edge} {gd:Option (Nat×Bool)} {xs:List Operand} {ats:Array TypeId} {f:Nat} {vs:List Value} {R':List Fa} {js:List Nat} {Y:Type} {φ:Y→Prop} {val:Y→Value} {O1:Y→List As} {R1:Y→List Fa}
    (hne:Nat.beq i wi=false) (hi:ops[i]? =some ⟨some t0,.call ⟨.value (.func f),xs.toArray,ats⟩,ty,ps,af,gd⟩) (hw:wnt ops m ⟨some t0,.call ⟨.value (.func f),xs.toArray,ats⟩,ty,ps,af,gd⟩=some true) (hd:Nat.ble (t0+1) n.sz=true) (hx:evs m xs vs) (hc:CanEnter P f)
    (h:Con P f vs [] R' φ val O1 R1) (hs:SelR js R R')
    (kont:∀y,φ y→RunD P ops Q c n wi k (L.setIfInBounds i true) ((t0,val y) :: m) OW (O1 y++O) (R1 y++R)):RunO P ops Q c n wi k L i m OW O R:=
  ztc (first:=[]) (cap:=[]) hne hi hw hd rfl hx hc (by simpa using h) hs kont
theorem zhb {i:Nat} {t0:Tmp} {ty:TypeId} {ps:String} {af:Array Edge} {gd:Option (Nat×Bool)} {xs:List Operand} {ats:Array TypeId} {f:Nat} {vs:List Value} {R':List Fa} {js:List Nat} {v:Value}
    (hne:Nat.beq i wi=false) (hi:ops[i]? =some ⟨some t0,.call ⟨.value (.func f),xs.toArray,ats⟩,ty,ps,af,gd⟩) (hw:wnt ops m ⟨some t0,.call ⟨.value (.func f),xs.toArray,ats⟩,ty,ps,af,gd⟩=some true) (hd:Nat.ble (t0+1) n.sz=true) (hx:evs m xs vs) (hc:CanEnter P f)
    (h:Con P f vs [] R' (Y:=Unit) (fun _=>True) (fun _=>v) (fun _=>[]) (fun _=>[])) (hs:SelR js R R')
    (kont:RunD P ops Q c n wi k (L.setIfInBounds i true) ((t0,v) :: m) OW O R):RunO P ops Q c n wi k L i m OW O R:=zB hne hi hw hd hx hc h hs (fun _ _=>kont)
theorem zC {i:Nat} {T t:TypeId} {x y:Operand} {b off:Nat} {v:Value} {cells news cells':List Value} {ty:TypeId} {ps:String} {af:Array Edge} {gd:Option (Nat×Bool)} (hlw:(L.setIfInBounds i true).getD wi true=true) (hi:ops[i]? =some ⟨none,.store t x y,ty,ps,af,gd⟩) (hw:wnt ops m ⟨none,.store t x y,ty,ps,af,gd⟩=some true)
    (hx:evo m x=some (.pointer (some ⟨b,off,none⟩))) (hy:evo m y=some v) (hv:v.cells=news.toArray) (ht:(P.info? t).map (·.size)=some news.length) (h1:news.all (·.oneCell')=true) (hu:Upd cells off news cells')
    (kont:RunD P ops Q c n wi k (L.setIfInBounds i true) m (boxA b T cells' :: OW) O R):RunO P ops Q c n wi k L i m (boxA b T cells :: OW) O R:=
  zQb (A':=fun _=>boxA b T cells') hlw hi hw rfl (zrc hx hy hv ht h1 hu) (fun _ _=>kont)
theorem zPa {OW2:List As} (p:OW.Perm OW2) (kont:RunD P ops Q c n wi k L m OW2 O R):RunD P ops Q c n wi k L m OW O R:=fun hQ hs hcl a w hw hr g f s1 s2 ap mm=>
  kont hQ hs hcl a w hw hr g f (Sep.perm p s1) s2 ap ⟨Sep.perm (List.Perm.append_right _ p) mm.sep,mm.holds,mm.apart,mm.hasH,mm.hasG,mm.le,mm.newG,mm.newH,mm.kept⟩
theorem zpa {x:Code} {is:List Nat} (ho:PickO is O O') (h:RunC (ro:=ro) P Q c n x m O' R):RunC (ro:=ro) P Q c n x m O R:=fun a w f mm=>h a w f (by
  have:=mm.weaken (O':=O') (R':=R) (fun h g s r a=>by
    obtain ⟨h',l,s'⟩:=Sep.picks ho s
    exact ⟨h',g,s',r,l,Hp.le_refl _,Hp.apart_of_le l a,fun _ _ e=> .inl e⟩)
  exact this)
theorem zU (hr:Region.ready .any ops L=[]) (h:Post c n Q .normal m (OW++O) R):RunD P ops Q c n wi k L m OW O R:=fun hQ hs hcl a w hw hr' g f s1 s2 ap mm=>by
  have:=h a w f ⟨_,g,mm⟩
  cases k with
  |zero=>exact ⟨hr,this⟩
  |succ k=>exact ⟨fun _=>this,fun i hi=>by rw [hr] at hi;cases hi⟩
theorem zGb {X:Type} {φ:X→Prop} {R1:X→List Fa} (h:∀g,Holds g R→∃x,φ x∧Holds g (R1 x)) (kont:∀x,φ x→RunD P ops Q c n wi k L m OW O (R1 x++R)):RunD P ops Q c n wi k L m OW O R:=fun hQ hs hcl a w hw hr g f s1 s2 ap mm=>by
  obtain ⟨x,hx,hR⟩:=h g mm.holds
  exact kont x hx hQ hs hcl a w hw hr g f s1 s2 ap ⟨mm.sep,Holds.app hR mm.holds,mm.apart,mm.hasH,mm.hasG,mm.le,mm.newG,mm.newH,mm.kept⟩
theorem zFe {α:Type} (i:Nat) {T:TypeId} {r:Rp α} {p:Option Addr} {cap:Nat} {xs:List α} {O2:List As} (hi:O[i]? =some (rowA T r p cap xs)) (hs':SetAt i O emA O2) (kont:RunD P ops Q c n wi k L m OW O2 (slF r p cap xs :: R)):RunD P ops Q c n wi k L m OW O R:=fun hQ hs hcl a w hw hr g f s1 s2 ap mm=>by
  obtain ⟨h1,h2,a12,e,hA,hO,put⟩:=Sep.pick i hi s2
  subst e
  have hgap:h1.apart g:=(Hp.apart_join.1 (Hp.apart_join.1 mm.apart).2).1
  have hfact:=rowA_sl hA hgap
  have hle:g.le (g.join h1):=Hp.le_joinL _ _
  have apw:=Hp.apart_joinR.1 ap
  have hg2:=Hp.apart_join.1 mm.apart
  have hg3:=Hp.apart_join.1 hg2.2
  have sO2:Sep (g.join h1) O2 h2:=by
    have:Sep (g.join h1) (emA :: O.eraseIdx i) (Hp.emp.join h2):=⟨Hp.emp,h2,Hp.emp_apart _,rfl,rfl,Sep.mono hle hO⟩
    have:=Sep.perm (zHb emA hi) this
    unfold SetAt at hs'
    rw [hs']
    simpa [Hp.emp_join] using this
  have hasw:Has w (hw.join h2):=Has.mono mm.hasH (Hp.join_le (Hp.le_joinL _ _) (Hp.le_trans (Hp.le_joinR a12) (Hp.le_joinR ap)))
  have hash1:Has w h1:=Has.mono mm.hasH (Hp.le_trans (Hp.le_joinL h1 h2) (Hp.le_joinR ap))
  have mm2:MemAt c w (OW++O2) (slF r p cap xs :: R) (hw.join h2) (g.join h1):=by
    refine ⟨Sep.app (Sep.mono hle s1) sO2 apw.2,⟨hfact,Holds.mono hle mm.holds⟩,?_,hasw,Has.join mm.hasG hash1,Hp.le_trans mm.le hle,?_,?_,mm.kept⟩
    · exact Hp.apart_join.2 ⟨Hp.apart_joinR.2 ⟨hg2.1,apw.1⟩,Hp.apart_joinR.2 ⟨hg3.2,Hp.apart_symm a12⟩⟩
    · intro b e nn
      by_cases hgb:g b=none
      · have hb1 : h1 b ≠ none := fun x => nn (Hp.join_none.2 ⟨hgb, x⟩)
        by_cases d:c.D b=none
        · refine .inl (mm.newH b d (fun x => hb1 ?_))
          exact (Hp.join_none.1 (Hp.join_none.1 x).2).1
        · exact .inr d
      · exact mm.newG b e hgb
    · intro b e nn
      refine mm.newH b e (fun x=>nn ?_)
      have x1:=Hp.join_none.1 x
      exact Hp.join_none.2 ⟨x1.1,(Hp.join_none.1 x1.2).2⟩
  refine wpAnyI_strong (S':=SL wi hw h2 (g.join h1)) (fun L w2 ⟨x1,x2,x3⟩=>⟨Has.join (Has.mono x2 (Hp.le_joinR (Hp.apart_symm hgap))) x1,Has.mono x2 hle,x3⟩) _ _ _ _ (kont hQ hs hcl a w hw h2 (g.join h1) f (Sep.mono hle s1) sO2 apw.2 mm2)
end
end Go.Proofs.YtpdbimfnhglhpaaGreat.Sp
namespace Go.Proofs.YtpdbimfnhglhpaaGreat.Sp
open Go
set_option linter.unusedVariables false
def objA (b:Nat) (o:Obj):As:=⟨fun _ h=>h=Hp.single b o,fun _ _ _ _ h=>h⟩
section
variable {P : Program} {Q : Exit → Act → World → Prop} {c : Cx} {n : Sz} {m : Fm} {O : List As} {R : List Fa}
theorem Mem.obj {w:World} {b:Nat} {o:Obj} (mm:Mem c w (objA b o :: O) R):w.heap[b]? =some o:=by
  obtain ⟨h,g,mm⟩:=mm
  obtain ⟨h1,h2,a,e,x,y⟩:=mm.sep
  have hx:h1=Hp.single b o:=x
  exact mm.hasH b o (by rw [e,hx];exact Hp.le_joinL _ _ _ _ (Hp.single_self _ _))
theorem Mem.putO {w:World} {b:Nat} {o o':Obj} (mm:Mem c w (objA b o :: O) R):Mem c (w.putObj b o') (objA b o' :: O) R:=by
  have hb:=mm.obj
  obtain ⟨h,g,s,r,ap,h1,h2,hfin⟩:=Mem.framed (O:=[objA b o]) (F:=O) mm
  obtain ⟨k1,k2,a,e,x,y⟩:=s
  have hx:k1=Hp.single b o:=x
  have hy:k2=Hp.emp:=y
  subst hx hy
  rw [Hp.join_emp] at e
  subst e
  have:=hfin (w.putObj b o') [objA b o'] [] (mem_put ap h1 h2 (A:=objA b o') rfl (World.putObj_heap_same (Array.getElem?_eq_some_iff.1 hb).1) (fun k hk=>World.putObj_heap_other hk) (by simp) rfl rfl rfl)
  simpa using this
theorem Mem.allocO {w:World} {o:Obj} (mm:Mem c w O R):Mem c (w.alloc o) (objA w.heap.size o :: O) R:=by
  obtain ⟨h,g,s,r,ap,h1,h2,hfin⟩:=Mem.framed (O:=[]) (F:=O) mm
  have e:h=Hp.emp:=s
  subst e
  have:=hfin (w.alloc o) [objA w.heap.size o] [] (mem_new h1 h2 (A:=objA w.heap.size o) rfl)
  simpa using this
theorem Mem.dropO {w:World} {A:As} (mm:Mem c w (A :: O) R):Mem c w O R:=mm.weaken fun h g s r a=>by
  obtain ⟨h1,h2,a1,e,x,y⟩:=s
  subst e
  exact ⟨h2,g,y,r,Hp.le_joinR a1,Hp.le_refl _,(Hp.apart_join.1 a).2,fun b o e=> .inl e⟩
def Back (P:Program) (gf:Nat) (lb:List Value) (fa:List Fa) (N:Nat) (encs:Nat→List Value):Prop:=
  ∀(l:Nat) (c:Cx) {X Y:Type} (φ:X→Nat→Prop) (ψ:Y→Prop) (OO:X→List As) (RR:X→List Fa) (OS:Y→List As) (RS:Y→List Fa),
    (∀x k w,k<N→φ x (k+1)→Mem c w (OO x) (fa++RR x)→YieldAt (FR none) 0 P l (encs k).toArray w fun e w'=>
      (e= .returned (.bool true)∧∃x',φ x' k∧Mem c w' (OO x') (fa++RR x'))∨(e= .returned (.bool false)∧∃y,ψ y∧Mem c w' (OS y) (RS y)))→
    ∀x w,φ x N→Mem c w (OO x) (fa++RR x)→CallsIn (FR none) 0 P gf ([Value.func (.yield l) #[] #[]]++lb).toArray w fun e w'=>
      (∃v,e= .returned v)∧((∃x',φ x' 0∧Mem c w' (OO x') (fa++RR x'))∨(∃y,ψ y∧Mem c w' (OS y) (RS y)))
def RetI {X Y:Type} (P:Program) (fn:Func) (c:Cx) (φ:X→Prop) (ψ:Y→Prop) (OO:X→List As) (RR:X→List Fa) (OS:Y→List As) (RS:Y→List Fa):Exit→Act→World→Prop:=
  bodyPost P fn (fun e w'=>(∃v,e= .returned v)∧((∃x',φ x'∧Mem c w' (OO x') (RR x'))∨(∃y,ψ y∧Mem c w' (OS y) (RS y))))
theorem back_intro {gf:Nat} {fn:Func} {code:Code} {k:Nat} {lb:List Value} {fa:List Fa} {N:Nat} {encs:Nat→List Value}
    (hf:P.funcs[gf]? =some fn) (hb:fn.body=some code) (hn:fn.ntmps=k) (hl:Nat.ble (lb.length+1) k=true)
    (h:∀(l:Nat) (c:Cx) (X Y:Type) (φ:X→Nat→Prop) (ψ:Y→Prop) (OO:X→List As) (RR:X→List Fa) (OS:Y→List As) (RS:Y→List Fa),
      (∀x k w,k<N→φ x (k+1)→Mem c w (OO x) (fa++RR x)→YieldAt (FR none) 0 P l (encs k).toArray w fun e w'=>
        (e= .returned (.bool true)∧∃x',φ x' k∧Mem c w' (OO x') (fa++RR x'))∨(e= .returned (.bool false)∧∃y,ψ y∧Mem c w' (OS y) (RS y)))→
      ∀x,φ x N→RunC (ro:=none) P (RetI P fn c (fun x=>φ x 0) ψ OO (fun x=>fa++RR x) OS RS) c ⟨k,[]⟩ code (argM 0 (.func (.yield l) #[] #[] :: lb)) (OO x) (fa++RR x)):Back P gf lb fa N encs:=by
  intro l c X Y φ ψ OO RR OS RS H x w hx hm
  refine callsIn_of_wp hf hb trivial ?_
  refine h l c X Y φ ψ OO RR OS RS H x hx _ w ⟨rfl,?_,?_⟩ hm
  · have : lb.length + 1 ≤ k := Nat.le_of_ble_eq_true hl
    simp [hn];omega
  · intro t v e
    obtain ⟨_,h3⟩:=argM_lk (.func (.yield l) #[] #[] :: lb) 0 t v e
    have h3':(Value.func (.yield l) #[] #[] :: lb)[t]? =some v:=by simpa using h3
    have:=(List.getElem?_eq_some_iff.1 h3').1
    have e1:([Value.func (.yield l) #[] #[]]++lb)=Value.func (.yield l) #[] #[] :: lb:=rfl
    simp only [e1,Array.getElem?_append,List.size_toArray,this,if_true]
    simpa using h3'
section
variable {X Y : Type} {k : Nat} {fn : Func} {φ : X → Prop} {ψ : Y → Prop} {OO : X → List As} {RR : X → List Fa} {OS : Y → List As} {RS : Y → List Fa}
theorem zUd (hr:fn.results= #[]) (x:X) (hx:φ x) (hmem:∀w,Mem c w O R→Mem c w (OO x) (RR x)):Post c ⟨k,[]⟩ (RetI P fn c φ ψ OO RR OS RS) .ret m O R:=fun a w f mm=>
  ⟨f.defers,.tuple #[],by simp [results_eq,hr],⟨_,rfl⟩,.inl ⟨x,hx,hmem w mm⟩⟩
theorem zVd (hr:fn.results= #[]) (y:Y) (hy:ψ y) (hmem:∀w,Mem c w O R→Mem c w (OS y) (RS y)):Post c ⟨k,[]⟩ (RetI P fn c φ ψ OO RR OS RS) .ret m O R:=fun a w f mm=>
  ⟨f.defers,.tuple #[],by simp [results_eq,hr],⟨_,rfl⟩,.inr ⟨y,hy,hmem w mm⟩⟩
theorem p_endI (h:Post c ⟨k,[]⟩ (RetI P fn c φ ψ OO RR OS RS) .ret m O R):Post c ⟨k,[]⟩ (RetI P fn c φ ψ OO RR OS RS) .normal m O R:=h
end
theorem Mem.freezeB {w:World} (i:Nat) {b:Nat} {T:TypeId} {cells:List Value} {O2:List As} (hi:O[i]? =some (boxA b T cells)) (hs:SetAt i O emA O2) (mm:Mem c w O R):Mem c w O2 (atF b 0 cells :: R):=by
  obtain ⟨_,_,m2⟩:=Mem.turn (X:=Unit) (φ:=fun _=>True) (A':=fun _=>emA) (R':=fun _=>[atF b 0 cells]) i hi (fun g h _ hA ap=>⟨(),Hp.emp,h,trivial,rfl,Hp.emp_apart _,rfl,by
    have e:h=Hp.single b (.cells cells.toArray T (0,0)):=hA
    refine ⟨⟨cells.toArray,T,(0,0),?_,fun j v hv=>by simpa using hv⟩,trivial⟩
    subst e
    exact Hp.le_joinR (Hp.apart_symm ap) _ _ (Hp.single_self _ _)⟩) mm
  unfold SetAt at hs
  rw [hs]
  exact m2
theorem zDa {x:Code} {ro:Option Nat} (i:Nat) {b:Nat} {T:TypeId} {cells:List Value} {O2:List As} (hi:O[i]? =some (boxA b T cells)) (hs:SetAt i O emA O2) (k:RunC (ro:=ro) P Q c n x m O2 (atF b 0 cells :: R)):RunC (ro:=ro) P Q c n x m O R:=fun a w f mm=>k a w f (mm.freezeB i hi hs)
theorem zwf {e:Exit} (i:Nat) {b:Nat} {T:TypeId} {cells:List Value} {O2:List As} (hi:O[i]? =some (boxA b T cells)) (hs:SetAt i O emA O2) (k:Post c n Q e m O2 (atF b 0 cells :: R)):Post c n Q e m O R:=fun a w f mm=>k a w f (mm.freezeB i hi hs)
theorem zXb {α:Type} {x:Code} {ro:Option Nat} (T:TypeId) (r:Rp α) (k:RunC (ro:=ro) P Q c n x m (rowA T r none 0 [] :: O) R):RunC (ro:=ro) P Q c n x m O R:=fun a w f mm=>by
  refine k a w f ?_
  obtain ⟨h,g,mm⟩:=mm
  exact ⟨h,g,⟨Hp.emp,h,Hp.emp_apart h,rfl,.inl ⟨rfl,rfl,rfl,rfl⟩,mm.sep⟩,mm.holds,mm.apart,mm.hasH,mm.hasG,mm.le,mm.newG,mm.newH,mm.kept⟩
theorem Mem.nilF {α:Type} {w:World} (r:Rp α) (mm:Mem c w O R):Mem c w O (slF r none 0 [] :: R):=by
  obtain ⟨h,g,mm⟩:=mm
  exact ⟨h,g,mm.sep,⟨Sl.nil r g,mm.holds⟩,mm.apart,mm.hasH,mm.hasG,mm.le,mm.newG,mm.newH,mm.kept⟩
theorem zOb {α:Type} {e:Exit} (r:Rp α) (k:Post c n Q e m O (slF r none 0 [] :: R)):Post c n Q e m O R:=fun a w f mm=>k a w f (mm.nilF r)
theorem zPg {α:Type} {x:Code} {ro:Option Nat} (r:Rp α) (k:RunC (ro:=ro) P Q c n x m O (slF r none 0 [] :: R)):RunC (ro:=ro) P Q c n x m O R:=fun a w f mm=>k a w f (mm.nilF r)
theorem zWg {X Y:Type} {φ:X→Prop} {ψ:Y→Prop} {OO:X→List As} {RR:X→List Fa} {OS:Y→List As} {RS:Y→List Fa} {ops:Array Oper} {l:List Oper}
    {t0:Tmp} {fo:Operand} {xs:List Operand} {ats:Array TypeId} {ty:TypeId} {ps:String} {af:Array Edge} {gd:Option (Nat×Bool)} {l0:Nat} {vs:List Value}
    (hw:wnt ops m ⟨some t0,.call ⟨.value fo,xs.toArray,ats⟩,ty,ps,af,gd⟩=some true) (hd:Nat.ble (t0+1) n.sz=true)
    (hf:evo m fo=some (.func (.yield l0) #[] #[])) (hx:evs m xs vs)
    (H:∀w,Mem c w O R→YieldAt (FR none) 0 P l0 vs.toArray w fun e w'=>(e= .returned (.bool true)∧∃x,φ x∧Mem c w' (OO x) (RR x))∨(e= .returned (.bool false)∧∃y,ψ y∧Mem c w' (OS y) (RS y)))
    (k1:∀x,φ x→RunL (ro:=none) P ops Q c n l ((t0,.bool true) :: m) (OO x) (RR x))
    (k2:∀y,ψ y→RunL (ro:=none) P ops Q c n l ((t0,.bool false) :: m) (OS y) (RS y)):
    RunL (ro:=none) P ops Q c n (⟨some t0,.call ⟨.value fo,xs.toArray,ats⟩,ty,ps,af,gd⟩ :: l) m O R:=by
  intro a w f mm
  unfold wpListIn
  rw [if_pos (f.wanted hw)]
  refine ⟨fun _ _=>trivial,?_⟩
  have e1:a.eval fo=_:=f.ev hf
  have e2:xs.toArray.map a.eval=vs.toArray:=by rw [List.map_toArray,evs.map f hx]
  obtain ⟨fn,tmps,assign,body,hy,hR⟩:=H w mm
  have hrun:(execOp a.eval ⟨some t0,.call ⟨.value fo,xs.toArray,ats⟩,ty,ps,af,gd⟩).run P w= .ok (.round l0 fn tmps assign body) w:=by
    simp only [execOp,resolve,e1,e2,Deferred.ofValue,Sem.run_bind,Sem.run_pure,Result.andThen_ok,invoke]
    simpa using hy
  rw [Oper.semAt_eq _ _ _ (fun c e=>by cases e),hrun,Oper.uponIn_round]
  refine ⟨fun e=>(by cases e),?_⟩
  refine RoundIn.mono hR ?_
  rintro e w' (⟨rfl,x,hx',m'⟩|⟨rfl,y,hy',m'⟩)
  · exact k1 x hx' _ _ (f.put (d:=some t0) hd _) m'
  · exact k2 y hy' _ _ (f.put (d:=some t0) hd _) m'
def RoundP {X Y:Type} (c:Cx) (l D:Nat) (o1 o2:Obj) (φ:X→Prop) (ψ:Y→Prop) (OO:X→List As) (RR:X→List Fa) (OS:Y→List As) (RS:Y→List Fa):Exit→Act→World→Prop
  | .normal,_,w=>∃x,φ x∧Mem c w (objA l o1 :: objA D o2 :: OO x) (RR x)
  | .ret,_,w=>∃y,ψ y∧Mem c w (objA l o1 :: objA D o2 :: OS y) (RS y)
  |_,_,_=>False
section
variable {X Y : Type} {l D : Nat} {o1 o2 : Obj} {φ : X → Prop} {ψ : Y → Prop} {OO : X → List As} {RR : X → List Fa} {OS : Y → List As} {RS : Y → List Fa}
theorem zWd (x:X) (hx:φ x) {is js:List Nat} (ho:PickO is O (objA l o1 :: objA D o2 :: OO x)) (hs:SelR js R (RR x)):Post c n (RoundP c l D o1 o2 φ ψ OO RR OS RS) .normal m O R:=fun a w f mm=>⟨x,hx,mm.sel ho hs⟩
theorem zXd (y:Y) (hy:ψ y) {is js:List Nat} (ho:PickO is O (objA l o1 :: objA D o2 :: OS y)) (hs:SelR js R (RS y)):Post c n (RoundP c l D o1 o2 φ ψ OO RR OS RS) .ret m O R:=fun a w f mm=>⟨y,hy,mm.sel ho hs⟩
end
def zipM:List Tmp→List Value→Fm→Fm
  |t :: ts,v :: vs,m=>zipM ts vs ((t,v) :: m)
  |_,_,m=>m
theorem Fr.zip:∀{ts:List Tmp} {vs:List Value} {a:Act} {m:Fm},Fr n a m→(∀t∈ts,Nat.ble (t+1) n.sz=true)→Fr n {a with tmps:=(ts.zip vs).foldl (fun x (t,v)=>x.setIfInBounds t v) a.tmps} (zipM ts vs m)
  |[],_,_,_,f,_=>f
  |_ :: _,[],_,_,f,_=>f
  |t :: ts,v :: vs,a,m,f,h=>by
    have f':=f.put (d:=some t) (h t (List.mem_cons_self ..)) v
    exact Fr.zip (ts:=ts) (vs:=vs) (a:=a.put (some t) v) (m:=(t,v) :: m) f' (fun u hu=>h u (List.mem_cons_of_mem _ hu))
theorem zYd {g:Operand} {gf:Nat} {lb:List Value} {ps:List Tmp} {assign body:Code} {fa:List Fa} {N:Nat} {encs:Nat→List Value}
    (hg:evo m g=some (.func (.func gf) #[] lb.toArray)) (hce:CanEnter P gf) (hB:Back P gf lb fa N encs) (hps:∀k,(encs k).length=ps.length) (hpt:ps.all (fun t=>Nat.ble (t+1) n.sz)=true)
    {X Y:Type} (φ:X→Nat→Prop) (ψ:Y→Prop) (OO:X→List As) (RR:X→List Fa) (OS:Y→List As) (RS:Y→List Fa) (M1:Nat→Fm)
    (x0:X) (hx0:φ x0 N) {is js:List Nat} (ho:PickO is O (OO x0)) (hr:SelR js R (fa++RR x0))
    (hassign:∀(l k:Nat) (O':List As) (R':List Fa) (Q':Exit→Act→World→Prop),Post c ⟨n.sz,[]⟩ Q' .normal (M1 k) O' R'→RunC (ro:=some l) P Q' c ⟨n.sz,[]⟩ assign (zipM ps (encs k) m) O' R')
    (hbody:∀(l D:Nat) (o1 o2:Obj) (x:X) (k:Nat),k<N→φ x (k+1)→RunC (ro:=some l) P (RoundP c l D o1 o2 (fun x'=>φ x' k) ψ OO (fun x'=>fa++RR x') OS RS) c ⟨n.sz,[]⟩ body (M1 k) (objA l o1 :: objA D o2 :: OO x) (fa++RR x))
    (hdone:∀D x,φ x 0→Post c ⟨n.sz,{target:= .collected D,args:= #[]} :: n.ds⟩ Q .normal m (objA D (.deferred (some [])) :: OO x) (fa++RR x))
    (hstop:∀D y,ψ y→Post c ⟨n.sz,{target:= .collected D,args:= #[]} :: n.ds⟩ Q .ret m (objA D (.deferred (some [])) :: OS y) (RS y)):
    RunC (ro:=none) P Q c n (.rangeFunc g ps.toArray assign body) m O R:=by
  intro a w f mm
  refine wpIn_rangeFunc ?_
  intro fn hfn
  have hgv:a.eval g= .func (.func gf) #[] lb.toArray:=f.ev hg
  have hst:=(mm.sel ho hr).allocO (o:= .deferred (some []))
  obtain ⟨rec,hrec⟩:∃rec:LoopState→Option Code→Loop,rec=fun st pe=>{state:=st,pending:=pe,fn,tmps:=a.tmps,params:=ps.toArray,assign,body,defers:=w.heap.size}:=⟨_,rfl⟩
  have hst2:=hst.allocO (o:= .loop (rec .ready none))
  have hsz:(w.alloc (.deferred (some []))).heap.size=w.heap.size+1:=by simp
  rw [hsz] at hst2
  obtain ⟨W1,hW1⟩:∃W1,(w.alloc (.deferred (some []))).alloc (.loop (rec .ready none))=W1:=⟨_,rfl⟩
  have hent:=run_enterLoop_outer (P:=P) (w:=w) fn a.tmps ps.toArray assign body
  rw [hrec] at hW1
  rw [hW1] at hent
  rw [hrec] at hst2
  rw [hW1,←hrec] at hst2
  refine ⟨w.heap.size+1,[{target:= .collected w.heap.size,args:= #[]}],W1,{target:= .fn (.func gf) lb.toArray,args:= #[.func (.yield (w.heap.size+1)) #[] #[]]},W1,gf,
    ([Value.func (.yield (w.heap.size+1)) #[] #[]]++lb).toArray,W1,hent,?_,fun _ _=>trivial,?_,fun e=>(by cases e),?_⟩
  · simp only [resolve, hgv]
    simp [go_sem]
  · have := hce.go (#[.func (.yield (w.heap.size + 1)) #[] #[]] ++ lb.toArray)
    simp only [invoke]
    simpa using this _
  · have key:=hB (w.heap.size+1) c (X:=X) (Y:=Y) φ ψ (fun x=>objA (w.heap.size+1) (.loop (rec .ready none)) :: objA w.heap.size (.deferred (some [])) :: OO x) RR
      (fun y=>objA (w.heap.size+1) (.loop (rec .done (some .ret))) :: objA w.heap.size (.deferred (some [])) :: OS y) RS ?_ x0 _ hx0 (by rw [hrec] at hst2 ⊢;exact hst2)
    · refine ⟨key.1, fun cs hroom => ?_⟩
      obtain ⟨e,w',fr,hq,rest⟩:=key.2 cs hroom
      refine ⟨e,w',fr,?_,rest⟩
      obtain ⟨⟨v,rfl⟩,hq⟩:=hq
      have fr':Fr ⟨n.sz,{target:= .collected w.heap.size,args:= #[]} :: n.ds⟩ {a with defers:=[{target:= .collected w.heap.size,args:= #[]}]++a.defers} m:=⟨by simp [f.defers],f.size,f.tmp⟩
      rcases hq with ⟨x,hx,m'⟩|⟨y,hy,m'⟩
      · refine ⟨none, _, ?_, hdone _ x hx _ _ fr' (m'.putO (o' := .loop { rec .ready none with state := .exhausted })).dropO⟩
        have:=run_endLoop (P:=P) m'.obj (by rw [hrec];simp)
        rw [hrec] at this ⊢
        exact this
      · refine ⟨some .ret, _, ?_, wpIn_ret (hstop _ y hy _ _ fr' (m'.putO (o' := .loop { rec .done (some .ret) with state := .exhausted })).dropO)⟩
        have:=run_endLoop (P:=P) m'.obj (by rw [hrec];simp)
        rw [hrec] at this ⊢
        exact this
    · intro x k W hk hx mW
      have hl:=mW.obj
      have hy:=run_yield (P:=P) (args:=(encs k).toArray) hl (by rw [hrec];simpa using hps k)
      rw [hrec] at hy
      refine ⟨fn,_,assign,body,hy,roundIn_of_wpIn hfn ?_⟩
      have hFr:Fr ⟨n.sz,[]⟩ {tmps:=(ps.toArray.zip (encs k).toArray).foldl (fun x (t,v)=>x.setIfInBounds t v) a.tmps,defers:=[]} (zipM ps (encs k) m):=by
        have:=Fr.zip (n:=⟨n.sz,[]⟩) (ts:=ps) (vs:=encs k) (a:=⟨a.tmps,[]⟩) (m:=m) ⟨rfl,f.size,f.tmp⟩ (by simpa using hpt)
        simpa [List.zip_toArray] using this
      refine hassign (w.heap.size+1) k (objA (w.heap.size+1) (.loop (rec .ready none)) :: objA w.heap.size (.deferred (some [])) :: OO x) (fa++RR x) _ ?_ _ _ hFr mW
      intro a1 w1 f1 m1
      refine ⟨_,run_beginRound m1.obj (by rw [hrec]),?_⟩
      have m2:=m1.putO (o':= .loop {rec .ready none with state:= .busy})
      refine wpIn_mono (hbody (w.heap.size+1) w.heap.size (.loop {rec .ready none with state:= .busy}) (.deferred (some [])) x k hk hx _ _ f1 m2) ?_
      intro e a3 w3 hp
      cases e with
      |normal=>
        obtain ⟨x',hx',m3⟩:=hp
        have hr3:=run_endRound (P:=P) none m3.obj
        refine ⟨_,_,hr3,.inl ⟨rfl,x',hx',?_⟩⟩
        have:=m3.putO (o':= .loop (rec .ready none))
        rw [hrec] at this ⊢
        exact this
      |ret=>
        obtain ⟨y,hy',m3⟩:=hp
        have hr3:=run_endRound (P:=P) (some .ret) m3.obj
        refine ⟨_,_,hr3,.inr ⟨rfl,y,hy',?_⟩⟩
        have:=m3.putO (o':= .loop (rec .done (some .ret)))
        rw [hrec] at this ⊢
        exact this
      |exit id=>exact hp.elim
      |goto t=>exact hp.elim
      |panic ch=>exact hp.elim
      |outgrown=>exact hp.elim
def RetM {Y:Type} (P:Program) (fn:Func) (c:Cx) (φ:Y→Prop) (val:Y→Value) (O':Y→List As) (R':Y→List Fa):Exit→Act→World→Prop:=
  bodyPostM (FR none) 0 P fn (fun e w'=>∃y,e= .returned (val y)∧φ y∧Mem c w' (O' y) (R' y))
theorem zhc {f:Nat} {fn:Func} {code:Code} {args:List Value} {Y:Type} {φ:Y→Prop} {val:Y→Value} {O':Y→List As} {R':Y→List Fa}
    {k:Nat} (hf:P.funcs[f]? =some fn) (hb:fn.body=some code) (hn:fn.ntmps=k) (hl:Nat.ble args.length k=true)
    (h:∀c:Cx,RunC (ro:=none) P (RetM P fn c φ val O' R') c ⟨k,[]⟩ code (argM 0 args) O R):Con P f args O R φ val O' R':=by
  intro w hh g s r ap h1 h2
  refine (callsIn_wide (n:=0)).1 (callsIn_of_wp_marks hf hb trivial ?_)
  refine h ⟨w,hh,g⟩ _ w ⟨rfl,?_,?_⟩ ⟨hh,g,Mem.start s r ap h1 h2⟩
  · have : args.length ≤ k := Nat.le_of_ble_eq_true hl
    simp [hn];omega
  · intro t v e
    obtain ⟨_,h3⟩:=argM_lk args 0 t v e
    have h3':args[t]? =some v:=by simpa using h3
    have:=(List.getElem?_eq_some_iff.1 h3').1
    simp only [Array.getElem?_append,List.size_toArray,this,if_true]
    simpa using h3'
section
variable {Y : Type} {n : Nat} {fn : Func} {φ : Y → Prop} {val : Y → Value} {O1 : Y → List As} {R1 : Y → List Fa}
theorem zxf (h:Post c ⟨n,[]⟩ (Ret P fn c φ val O1 R1) .ret m O R):Post c ⟨n,[]⟩ (RetM P fn c φ val O1 R1) .ret m O R:=fun a w f mm=>by
  obtain ⟨hd,v,hr,y,hy⟩:=h a w f mm
  show LeavesInM _ _ _ _ _ _ a.defers _ _
  rw [hd]
  exact ⟨v,hr,y,hy⟩
theorem zGe {D:Nat} {ds:List Deferred} (i:Nat) (hi:O[i]? =some (objA D (.deferred (some ds)))) (hds:ds=[])
    (h:Post c ⟨n,[]⟩ (Ret P fn c φ val O1 R1) .ret m (O.eraseIdx i) R):Post c ⟨n,[{target:= .collected D,args:= #[]}]⟩ (RetM P fn c φ val O1 R1) .ret m O R:=fun a w f mm=>by
  subst hds
  have m1:=mm.perm (zfa hi)
  have m2:=(m1.putO (o':= .deferred none)).dropO
  obtain ⟨hd,v,hr,y,hy⟩:=h {a with defers:=[]} _ ⟨rfl,f.size,f.tmp⟩ m2
  show LeavesInM _ _ _ _ _ _ a.defers _ _
  rw [f.defers]
  exact ⟨by simp,.inl ⟨D,_,rfl,run_takeDeferred m1.obj,v,hr,y,hy⟩⟩
end
end
end Go.Proofs.YtpdbimfnhglhpaaGreat.Sp
namespace Go.Proofs.YtpdbimfnhglhpaaGreat.Sp
open Go
set_option linter.unusedVariables false
section
variable {P : Program} {Q : Exit → Act → World → Prop} {c : Cx} {n : Sz} {ops : Array Oper} {o : Oper} {m m' : Fm} {OW O O' OW' : List As} {R R' : List Fa} {k wi : Nat} {L : Array Bool}
theorem zuc {i:Nat} (hne:Nat.beq i wi=false) (hi:ops[i]? =some o) (hw':wnt ops m o=some true) (hd:okT n o.dst=true) {Y:Type} {φ:Y→Prop} {val:Y→Value} {O1:Y→List As} {R1:Y→List Fa} (h:Ef P n o m [] R φ val O1 R1)
    (kont:∀y,φ y→RunD P ops Q c n wi k (L.setIfInBounds i true) (updM m o.dst (val y)) (O1 y++OW) O (R1 y++R)):RunO P ops Q c n wi k L i m OW O R:=fun hQ hs hcl hrd a w hw hr g f s1 s2 ap mm=>by
  unfold wpOp
  simp only [hi]
  rw [if_pos (f.wanted hw')]
  refine .inl<|WpB.wp (h a f w Hp.emp g rfl mm.holds (Hp.emp_apart g) (fun _ _ e=>by cases e) mm.hasG _ _ fun y w' hy hM=> ?_)
  have mm0:MemAt c w ([]++(OW++O)) R (Hp.emp.join (hw.join hr)) g:=by simpa [Hp.emp_join] using mm
  obtain ⟨h',g',mm',sO',sF,ap',le'⟩:=MemAt.framed (O:=[]) (F:=OW++O) rfl mm.sep (Hp.emp_apart _) mm0 hM
  have ap2:=Hp.apart_joinR.1 ap'
  have hasj:Has w' (hw.join hr):=Has.mono mm'.hasH (Hp.le_joinR ap')
  have hasr:Has w' hr:=Has.mono hasj (Hp.le_joinR ap)
  have hash:Has w' h':=Has.mono mm'.hasH (Hp.le_joinL _ _)
  have hasw:Has w' hw:=Has.mono hasj (Hp.le_joinL _ _)
  refine ⟨⟨hasr,Has.mono mm'.hasG le',fun _=>hasw⟩,?_⟩
  have apn:(h'.join hw).apart hr:=Hp.apart_join.2 ⟨ap2.2,ap⟩
  have hsep:Sep g' (O1 y++OW) (h'.join hw):=Sep.app sO' (Sep.mono le' s1) ap2.1
  have mm2:MemAt c w' ((O1 y++OW)++O) (R1 y++R) ((h'.join hw).join hr) g':=by
    rw [Hp.join_assoc]
    exact ⟨by rw [← Hp.join_assoc];exact Sep.app hsep (Sep.mono le' s2) apn,mm'.holds,mm'.apart,mm'.hasH,mm'.hasG,mm'.le,mm'.newG,mm'.newH,mm'.kept⟩
  exact wpAnyI_strong (S':=SL wi (h'.join hw) hr g') (fun L w2 ⟨x1,x2,x3⟩=>⟨x1,Has.mono x2 le',fun e=>Has.mono (x3 e) (Hp.le_joinR ap2.1)⟩) _ _ _ _ (kont y hy hQ hs (hcl.step hrd) _ w' (h'.join hw) hr g' (f.put hd _) hsep (Sep.mono le' s2) apn mm2)
end
end Go.Proofs.YtpdbimfnhglhpaaGreat.Sp
namespace Go.Proofs.YtpdbimfnhglhpaaGreat.Sp
open Go
set_option linter.unusedVariables false
set_option linter.unusedSectionVars false
structure KeyIs {κ:Type} (P:Program) (k:TypeId) (enc:κ→Value) (ok:κ→Prop):Prop where
  keyed:Maps.Keyed P k
  key:∀a,ok a→∃l,keyOf P k (enc a)=some l
  inj:∀a b,enc a=enc b→a=b
section lists
variable {κ ν : Type} [DecidableEq κ]
def mget:List (κ×ν)→κ→Option ν
  |[],_=>none
  |p :: l,a=>if p.1=a then some p.2 else mget l a
end lists
structure MapEs {κ ν:Type} (encK:κ→Value) (encV:ν→Value) (ok:κ→Prop) (m:List (κ×ν)) (es:Array MapEntry) (clock:Nat):Prop where
  eq:es.toList.map (fun e=>(e.key,e.val))=m.map (fun p=>(encK p.1,encV p.2))
  born:(es.toList.map (·.born)).Nodup
  old:∀e∈es.toList,e.born<clock
  oks:∀p∈m,ok p.1
  nodup:(m.map (·.1)).Nodup
section
variable {κ ν : Type} [DecidableEq κ] {P : Program} {w : World} {k e t : TypeId} {encK : κ → Value} {encV : ν → Value} {ok : κ → Prop} {m : List (κ × ν)} {es : Array MapEntry} {clock : Nat}
theorem MapEs.size (h:MapEs encK encV ok m es clock):es.size=m.length:=by
  have:=congrArg List.length h.eq
  simpa using this
end
section
variable {κ ν : Type} [DecidableEq κ] {P : Program} {n : Sz} {fm : Fm} {O : List As} {R : List Fa} {d : Option Tmp} {ty k e t : TypeId} {ps : String} {af : Array Edge} {gd : Option (Nat × Bool)}
  {encK:κ→Value} {encV:ν→Value} {ok:κ→Prop} {m:List (κ×ν)}
end
end Go.Proofs.YtpdbimfnhglhpaaGreat.Sp
namespace Go.Proofs.YtpdbimfnhglhpaaGreat.Sp
open Go
set_option linter.unusedVariables false
set_option linter.unusedSectionVars false
def allA (l:List As):As:=⟨fun g h=>Sep g l h,fun _ _ _ hg s=>Sep.mono hg s⟩
def allF (l:List Fa):Fa:=⟨fun g=>Holds g l,fun _ _ hg s=>Holds.mono hg s⟩
abbrev RW (α:Type):=Option Addr×Nat×List α
def ov {α:Type} (z:RW α):Option Addr×Nat×Nat:=(z.1,z.2.2.length,z.2.1)
def rV:Rp (Option Addr×Nat×Nat):=fl 1 (fun z=>[.slice z.1 z.2.1 z.2.2]) (fun _=>True) (fun _=>rfl) (fun _=>rfl)
def iv {α:Type} (T:TypeId) (r:Rp α) (z:RW α):As:=rowA T r z.1 z.2.1 z.2.2
def rowsA {α:Type} (T:TypeId) (r:Rp α) (zs:List (RW α)):As:=allA (zs.map (iv T r))
theorem Hp.join_monoR {g k k':Hp} (h:k.le k'):(g.join k).le (g.join k'):=fun b o e=>by
  unfold Hp.join at*
  cases hg:g b with
  |some x=>rw [hg] at e;simpa using e
  |none=>rw [hg] at e;simpa using h _ _ e
section
variable {P : Program} {Q : Exit → Act → World → Prop} {c : Cx} {n : Sz} {ro : Option Nat} {ops : Array Oper} {l : List Oper} {m : Fm} {O O' : List As} {R R' : List Fa} {α : Type} {T : TypeId} {r : Rp α} {zs : List (RW α)}
theorem zjd {x:Code} (h:∀w,Mem c w O R→Mem c w O' R') (k:RunC (ro:=ro) P Q c n x m O' R'):RunC (ro:=ro) P Q c n x m O R:=fun a w f mm=>k a w f (h w mm)
theorem zib {e:Exit} (h:∀w,Mem c w O R→Mem c w O' R') (k:Post c n Q e m O' R'):Post c n Q e m O R:=fun a w f mm=>k a w f (h w mm)
theorem Mem.resep {w:World} (h:∀g h,Sep g O h→Sep g O' h) (mm:Mem c w O R):Mem c w O' R:=by
  obtain ⟨hh,g,mm⟩:=mm
  exact ⟨hh,g,h _ _ mm.sep,mm.holds,mm.apart,mm.hasH,mm.hasG,mm.le,mm.newG,mm.newH,mm.kept⟩
theorem sep_open {g h:Hp} {l:List As} {A:As} {j:Nat} (hj:l[j]? =some A) (s:Sep g (allA l :: O) h):Sep g (A :: allA (l.eraseIdx j) :: O) h:=by
  obtain ⟨ha,hb,a,e,x,y⟩:=s
  obtain ⟨h1,h2,a2,e2,x1,x2,_⟩:=Sep.pick j hj x
  subst e2;subst e
  have a':=Hp.apart_join.1 a
  exact ⟨h1,h2.join hb,Hp.apart_joinR.2 ⟨a2,a'.1⟩,Hp.join_assoc _ _ _,x1,h2,hb,a'.2,rfl,x2,y⟩
theorem sep_close {g h:Hp} {l:List As} {A B:As} {j:Nat} (hj:l[j]? =some B) (s:Sep g (A :: allA (l.eraseIdx j) :: O) h):Sep g (allA (l.set j A) :: O) h:=by
  obtain ⟨h1,hr,a,e,x,h2,hb,a2,e2,y,z⟩:=s
  subst e2;subst e
  have a':=Hp.apart_joinR.1 a
  refine ⟨h1.join h2,hb,Hp.apart_join.2 ⟨a'.2,a2⟩,(Hp.join_assoc _ _ _).symm,?_,z⟩
  have:Sep g (A :: l.eraseIdx j) (h1.join h2):=⟨h1,h2,a'.1,rfl,x,y⟩
  exact Sep.perm (zHb A hj) this
theorem rowsA_sl {g h:Hp}:∀{zs:List (RW α)} {h:Hp},Sep g (zs.map (iv T r)) h→h.apart g→Holds (g.join h) (zs.map (fun z:RW α=>slF r z.1 z.2.1 z.2.2))
  |[],_,_,_=>trivial
  |z :: zs,h,⟨h1,h2,a,e,x,y⟩,ap=>by
    subst e
    have ap':=Hp.apart_join.1 ap
    have s1:Sl r (g.join h1) z.1 z.2.1 z.2.2:=rowA_sl x ap'.1
    exact ⟨s1.mono (Hp.join_monoR (Hp.le_joinL _ _)),Holds.mono (Hp.join_monoR (Hp.le_joinR a)) (rowsA_sl (g:=g) (h:=h) y ap'.2)⟩
theorem Mem.rowsFacts {w:World} (i:Nat) (hi:O[i]? =some (rowsA T r zs)) (mm:Mem c w O R):Mem c w (O.set i emA) (allF (zs.map (fun z:RW α=>slF r z.1 z.2.1 z.2.2)) :: R):=by
  obtain ⟨_,_,m'⟩:=Mem.turn (X:=Unit) (φ:=fun _=>True) (A':=fun _=>emA) (R':=fun _=>[allF (zs.map (fun z:RW α=>slF r z.1 z.2.1 z.2.2))]) i hi (fun g h _ hA ap=>⟨(),Hp.emp,h,trivial,rfl,Hp.emp_apart h,rfl,rowsA_sl (g:=g) (h:=h) hA ap,trivial⟩) mm
  exact m'
theorem holds_get {g:Hp}:∀{zs:List (RW α)} (i:Nat) {z:RW α},zs[i]? =some z→Holds g (zs.map (fun z:RW α=>slF r z.1 z.2.1 z.2.2))→Sl r g z.1 z.2.1 z.2.2
  |zs,i,z,hz,h=>by
    have:=Holds.get i (R:=zs.map (fun z:RW α=>slF r z.1 z.2.1 z.2.2)) (r:=slF r z.1 z.2.1 z.2.2) (by rw [List.getElem?_map,hz];rfl) h
    exact this
theorem sl_rows {g:Hp} {p:Option Addr} {cap:Nat} (h1:Sl rV g p cap (zs.map ov)) (h2:Holds g (zs.map (fun z:RW α=>slF r z.1 z.2.1 z.2.2))):Sl (rS r) g p cap (zs.map (fun z:RW α=>z.2.2)):=by
  refine ⟨by simpa using h1.1,h1.2.1,h1.2.2.1,fun i x e=> ?_⟩
  rw [List.getElem?_map] at e
  cases hz:zs[i]? with
  |none=>rw [hz] at e;simp at e
  |some z=>
    rw [hz] at e;simp at e;subst e
    obtain ⟨b,off,γ,e1,e2,_⟩:=h1.2.2.2 i (ov z) (by rw [List.getElem?_map,hz];rfl)
    exact ⟨b,off,(z.1,z.2.1),e1,e2,holds_get i hz h2⟩
theorem Mem.rowsFreeze {w:World} (i q:Nat) {T0:TypeId} {p:Option Addr} {cap:Nat} (hi:O[i]? =some (rowA T0 rV p cap (zs.map ov))) (hq:(O.set i emA)[q]? =some (rowsA T r zs)) (mm:Mem c w O R):
    Mem c w ((O.set i emA).set q emA) (slF (rS r) p cap (zs.map (fun z:RW α=>z.2.2)) :: R):=by
  have m1:=mm.freeze i hi (O2:=O.set i emA) rfl
  have m2:=m1.rowsFacts q hq
  obtain ⟨hh,g,m3⟩:=m2
  exact ⟨hh,g,m3.sep,⟨sl_rows m3.holds.2.1 m3.holds.1,m3.holds.2.2⟩,m3.apart,m3.hasH,m3.hasG,m3.le,m3.newG,m3.newH,m3.kept⟩
end
end Go.Proofs.YtpdbimfnhglhpaaGreat.Sp
namespace Go.Proofs.YtpdbimfnhglhpaaGreat.Sp
open Go
set_option linter.unusedVariables false
set_option linter.unusedSectionVars false
section
variable {P : Program} {d : Nat} {t e : TypeId} {xs ys : List Value} {r r' : Bool}
variable {n : Sz} {m : Fm} {dd : Option Tmp} {ty t2 : TypeId} {ps : String} {af : Array Edge} {gd : Option (Nat × Bool)} {x y : Operand} {p : Prop} [Decidable p]
theorem zAd {pp:Option Addr} {k cap:Nat} (hu:P.underlying t=some (.slice e)) (h1:evo m x=some (.slice pp k cap)) (h2:evo m y=some (.slice none 0 0)):PV P n ⟨dd,.binOp .eql t x y t2,ty,ps,af,gd⟩ m (.bool pp.isNone):=fun a w f=>by
  have hE0:∀d,(Op.equalIn (d+1) t (.slice pp k cap) (.slice none 0 0)).run P w= .ok pp.isNone w:=fun d=>by
    cases pp <;> simp [Op.equalIn,run_underlying hu]
  have hE:(Op.equal t (.slice pp k cap) (.slice none 0 0)).run P w= .ok pp.isNone w:=hE0 9999
  have hG:(eqGuard .eql t x y (.slice pp k cap) (.slice none 0 0)).run P w= .ok () w:=by
    cases pp <;> simp [eqGuard]
  simp only [execOp,f.ev h1,f.ev h2,Sem.run_bind,hG,Result.andThen_ok,binOp,hE,Sem.run_pure]
end
section
variable {P : Program} {Q : Exit → Act → World → Prop} {c : Cx} {n : Sz} {ro : Option Nat} {ops : Array Oper} {l : List Oper} {m m' : Fm} {O O' OW : List As} {R R' : List Fa}
variable {d : Option Tmp} {ty : TypeId} {ps : String} {af : Array Edge} {gd : Option (Nat × Bool)} {α : Type}
theorem l_perm (p:O.Perm O') (h:RunL (ro:=ro) P ops Q c n l m O' R):RunL (ro:=ro) P ops Q c n l m O R:=fun a w f mm=>h a w f (mm.perm p)
theorem zZd {A F:List As} {t0:Tmp} {fo:Operand} {xs:List Operand} {ats:Array TypeId} {f:Nat} {first cap vs:List Value} {js:List Nat} {Y:Type} {φ:Y→Prop} {val:Y→Value} {O1:Y→List As} {R1:Y→List Fa}
    (hw:wnt ops m ⟨some t0,.call ⟨.value fo,xs.toArray,ats⟩,ty,ps,af,gd⟩=some true) (hd:Nat.ble (t0+1) n.sz=true) (hf:evo m fo=some (.func (.func f) first.toArray cap.toArray)) (hx:evs m xs vs) (hc:CanEnter P f)
    (h:Con P f (first++vs++cap) A R' φ val O1 R1) (hs:SelR js R R')
    (k:∀y,φ y→RunL (ro:=ro) P ops Q c n l ((t0,val y) :: m) (O1 y++F) (R1 y++R)):RunL (ro:=ro) P ops Q c n (⟨some t0,.call ⟨.value fo,xs.toArray,ats⟩,ty,ps,af,gd⟩ :: l) m (A++F) R:=
  r_ef (O:=A) (F:=F) hw hd (Ef.weakR hs (zCc hf hx hc h)) k
theorem zyf {i wi k:Nat} {L:Array Bool} {A:As} {t0:Tmp} {fo:Operand} {xs:List Operand} {ats:Array TypeId} {f:Nat} {first cap vs:List Value} {js:List Nat} {Y:Type} {φ:Y→Prop} {val:Y→Value} {A':Y→As} {R1:Y→List Fa}
    (hlw:(L.setIfInBounds i true).getD wi true=true) (hi:ops[i]? =some ⟨some t0,.call ⟨.value fo,xs.toArray,ats⟩,ty,ps,af,gd⟩) (hw:wnt ops m ⟨some t0,.call ⟨.value fo,xs.toArray,ats⟩,ty,ps,af,gd⟩=some true) (hd:Nat.ble (t0+1) n.sz=true) (hf:evo m fo=some (.func (.func f) first.toArray cap.toArray)) (hx:evs m xs vs) (hc:CanEnter P f)
    (h:Con P f (first++vs++cap) [A] R' φ val (fun y=>[A' y]) R1) (hs:SelR js R R')
    (kont:∀y,φ y→RunD P ops Q c n wi k (L.setIfInBounds i true) ((t0,val y) :: m) (A' y :: OW) O (R1 y++R)):RunO P ops Q c n wi k L i m (A :: OW) O R:=
  zQb hlw hi hw hd (Ef.weakR hs (zCc hf hx hc h)) kont
theorem zHe {wi k:Nat} {L:Array Bool} {OW':List As} {js:List Nat} (hm:SubM m' m) (pw:OW.Perm OW') (po:O.Perm O') (hr:SelR js R R') (h:RunD P ops Q c n wi k L m' OW' O' R'):RunD P ops Q c n wi k L m OW O R:=fun hQ hs hcl a w hw hr' g f s1 s2 ap mm=>
  h hQ hs hcl a w hw hr' g (f.sub hm) (Sep.perm pw s1) (Sep.perm po s2) ap ⟨Sep.perm (List.Perm.append pw po) mm.sep,hr.holds mm.holds,mm.apart,mm.hasH,mm.hasG,mm.le,mm.newG,mm.newH,mm.kept⟩
theorem zI {s e:TypeId} {x ix:Operand} {b o k cap sz j:Nat} {kk:IntKind} {z:Int} (hu:P.underlying s=some (.slice e)) (ht:(P.info? e).map (·.size)=some sz) (h1:evo m x=some (.slice (some ⟨b,o,none⟩) k cap)) (h2:evo m ix=some (.int kk z)) (hz:z=(j:Int)) (hj:j<k):
    PV P n ⟨d,.indexAddr s x ix,ty,ps,af,gd⟩ m (rowPtr (some ⟨b,o,none⟩) (j*sz)):=fun a w f=>by
  subst hz
  have hrun:=zVa (P:=P) (a:=⟨b,o,none⟩) (cap:=cap) (kk:=kk) (w:=w) hu ht hj
  simp only [execOp,f.ev h1,f.ev h2,Sem.run_bind,hrun,Result.andThen_ok,Sem.run_pure,Addr.add_lit,rowPtr,Option.map_some]
theorem c_nil {x:Code} {r:Rp α} {p:Option Addr} {cap:Nat} {xs:List α} (i:Nat) (hi:R[i]? =some (slF r p cap xs)) (k:(p=none→xs=[])→RunC (ro:=ro) P Q c n x m O R):RunC (ro:=ro) P Q c n x m O R:=
  zvf (fun g h e=>by
    have s:Sl r g p cap xs:=Holds.get i hi h
    have h1:=s.1;have h2:=s.2.2.1 e
    exact List.eq_nil_of_length_eq_zero (by omega)) k
theorem zXg {wi k:Nat} {L L':Array Bool} {OW':List As} {js:List Nat} (hL:L=L') (hm:SubM m' m) (pw:OW.Perm OW') (po:O.Perm O') (hr:SelR js R R') (h:RunD P ops Q c n wi k L' m' OW' O' R'):RunD P ops Q c n wi k L m OW O R:=by
  subst hL;exact zHe hm pw po hr h
theorem zMa {wi k:Nat} {L L':Array Bool} {OW':List As} {js:List Nat} (h:RunD P ops Q c n wi k L' m' OW' O' R') (hL:L=L') (hm:SubM m' m) (pw:OW.Perm OW') (po:O.Perm O') (hr:SelR js R R'):RunD P ops Q c n wi k L m OW O R:=zXg hL hm pw po hr h
theorem zpb {X:Type} {wi k k':Nat} {L L':Array Bool} (S:X→Fm×List As×List As×List Fa) (h:∀x,RunD P ops Q c n wi k' L' (S x).1 (S x).2.1 (S x).2.2.1 (S x).2.2.2)
    (kont:(∀x,RunD P ops Q c n wi k' L' (S x).1 (S x).2.1 (S x).2.2.1 (S x).2.2.2)→RunD P ops Q c n wi k L m OW O R):RunD P ops Q c n wi k L m OW O R:=kont h
end
section
variable {κ ν : Type} [DecidableEq κ]
variable {P : Program} {Q : Exit → Act → World → Prop} {c : Cx} {n : Sz} {ro : Option Nat} {ops : Array Oper} {l : List Oper} {fm : Fm} {O : List As} {R : List Fa} {d : Option Tmp} {ty k e t : TypeId} {ps : String} {af : Array Edge} {gd : Option (Nat × Bool)}
  {encK:κ→Value} {encV:ν→Value} {ok:κ→Prop} {m vis:List (κ×ν)} {b it:Nat}
end
end Go.Proofs.YtpdbimfnhglhpaaGreat.Sp
namespace Go.Proofs.YtpdbimfnhglhpaaGreat.Sp
open Go
set_option linter.unusedVariables false
set_option linter.unusedSectionVars false
section
variable {P : Program} {Q : Exit → Act → World → Prop} {c : Cx} {n : Sz} {ro : Option Nat} {ops : Array Oper} {l : List Oper} {m m' : Fm} {O O' OW : List As} {R R' : List Fa}
theorem zzf {x:Code} {X:Type} {φ:X→Prop} {O1:X→List As} {R1:X→List Fa} (h:∀w,Mem c w O R→∃y,φ y∧Mem c w (O1 y) (R1 y)) (k:∀y,φ y→RunC (ro:=ro) P Q c n x m (O1 y) (R1 y)):RunC (ro:=ro) P Q c n x m O R:=fun a w f mm=>by
  obtain ⟨y,hy,m'⟩:=h w mm
  exact k y hy a w f m'
end
abbrev Tri:=Option Addr×Nat×Nat
section
variable {κ : Type} [DecidableEq κ] {α : Type}
def Raw:List (κ×Tri)→List (κ×List α)→Prop
  |[],[]=>True
  |q :: raw,x :: M=>q.1=x.1∧q.2.2.1=x.2.length∧Raw raw M
  |_,_=>False
variable {P : Program} {Q : Exit → Act → World → Prop} {c : Cx} {n : Sz} {ro : Option Nat} {ops : Array Oper} {l : List Oper} {fm : Fm} {O : List As} {R : List Fa} {T : TypeId} {r : Rp α} {b : Nat} {encK : κ → Value} {ok : κ → Prop} {M : List (κ × List α)} {raw : List (κ × Tri)}
theorem Raw.get:∀{raw:List (κ×Tri)} {M:List (κ×List α)},Raw raw M→∀k,(mget raw k=none∧mget M k=none)∨∃p cap xs,mget raw k=some (p,xs.length,cap)∧mget M k=some xs
  |[],[],_,k=> .inl ⟨rfl,rfl⟩
  |q :: raw,x :: M,⟨h1,h2,h3⟩,k=>by
    simp only [mget,h1]
    by_cases e:x.1=k
    · right
      refine ⟨q.2.1,q.2.2.2,x.2,?_,?_⟩
      · rw [if_pos e,←h2]
      · rw [if_pos e]
    · simp only [if_neg e];exact Raw.get h3 k
theorem Raw.length:∀{raw:List (κ×Tri)} {M:List (κ×List α)},Raw raw M→raw.length=M.length
  |[],[],_=>rfl
  |q :: raw,x :: M,⟨_,_,h3⟩=>by simp [Raw.length h3]
end
section
variable {P : Program} {Q : Exit → Act → World → Prop} {c : Cx} {n : Sz} {ro : Option Nat} {ops : Array Oper} {l : List Oper} {m : Fm} {O : List As} {R : List Fa}
variable {d : Option Tmp} {ty : TypeId} {ps : String} {af : Array Edge} {gd : Option (Nat × Bool)} {α : Type}
theorem zJc {t e:TypeId} {x:Operand} {r:Rp α} {p:Option Addr} {k cap:Nat} {xs:List α} (j:Nat) (hj:R[j]? =some (slF r p cap xs)) (hu:P.underlying t=some (.slice e)) (hI:Inf P e 1 24 (.slice none 0 0)) (h1:evo m x=some (.slice p k cap)) (hk:xs.length=k):
    Ef P n ⟨d,.buildSlice t 1 #[(0,x)],ty,ps,af,gd⟩ m [] R (Y:=Nat) (fun _=>True) (fun b=> .slice (some ⟨b,0,none⟩) 1 1) (fun b=>[rowA e (rS r) (some ⟨b,0,none⟩) 1 [xs]]) (fun _=>[]):=by
  subst hk
  have hp:evp m [(0,x)] [(0,.slice p xs.length cap)]:=⟨rfl,h1,trivial⟩
  refine zzb (r:=rS r) (z:= .slice none 0 0) (vs:=[(0,.slice p xs.length cap)]) (xs:=[xs]) (out:=[.slice p xs.length cap]) hu hI rfl (show 1*1≤16777216 by decide) (show 0<1*1 by decide) (show 1≤16777216 by decide) hp ?_ rfl rfl (fun g hr=> ?_)
  · refine ⟨0, 1, [.slice p xs.length cap], [.slice p xs.length cap], rfl, rfl, rfl, ?_, rfl⟩
    have:(madeCells (Value.slice none 0 0).cells (1*(rS r).sz)).toList=[Value.slice none 0 0]:=by show (madeCells (Value.slice none 0 0).cells (1*1)).toList=_;simp [madeCells,Value.cells]
    rw [this]
    exact Upd.take .nil
  · intro i x0 hx
    cases i with
    |zero=>simp at hx;subst hx;exact ⟨(p,cap),⟨rfl,fun j v e=>by have e':[Value.slice p xs.length cap][j]? =some v:=e;simpa using e'⟩,Holds.get j hj hr⟩
    |succ i=>simp at hx
end
end Go.Proofs.YtpdbimfnhglhpaaGreat.Sp
namespace Go.Proofs.YtpdbimfnhglhpaaGreat.Sp
open Go Go.RowKit Go.ChangeShapes Go.WideShapes
set_option linter.unusedVariables false
set_option linter.unusedSectionVars false
def whole (W:World):Hp:=fun b=>W.heap[b]?
theorem whole_has (W:World):Has W (whole W):=fun b o h=>h
theorem zAf {q:IntKind} {z:Int} (h:(Lit.int q z).wf=true):InK q z:=by
  simp only [Lit.wf,InK] at *;simpa using h
section
variable {P : Program} {t e : TypeId} {α β : Type} {r : Rp α} {s : Rp β}
theorem add_block (a:Addr) (k:Nat):(a.add k).block=a.block:=by unfold Addr.add;split <;> rfl
theorem add_off (a:Addr) (k:Nat):(a.add k).off=a.off+k:=by unfold Addr.add;split <;> simp_all
theorem add_spot {a:Addr} (k:Nat) (h:a.spot=none):(a.add k).spot=none:=by unfold Addr.add;split <;> simp_all
theorem add_zero' (a:Addr):a.add 0=a:=by simp [Addr.add]
theorem at_of_cells {W:World} {base:Nat} {a:Addr} {k:Nat} {cs:List Value} (h:W.cells? base a k=some cs) (hk:0<k):a.spot=none∧AtP (whole W) a.block a.off cs:=by
  obtain ⟨_,hl,hc⟩:=World.cells?_some h
  have h0:=hc 0 hk
  have hne:cs[0]? =some (cs[0]'(by omega)):=List.getElem?_eq_getElem (by omega)
  rw [hne,add_zero'] at h0
  unfold World.cell? at h0
  cases hb:W.heap[a.block]? with
  |none=>rw [hb] at h0;simp at h0
  |some o=>
    rw [hb] at h0
    cases o with
    |cells c T fz=>
      simp only at h0
      have hsp:a.spot=none:=by
        cases hs:a.spot with
        |none=>rfl
        |some q=>simp [hs] at h0
      refine ⟨hsp,c,T,fz,hb,fun j v hv=> ?_⟩
      have hj:j<k:=by rw [← hl];exact (List.getElem?_eq_some_iff.1 hv).1
      have:=hc j hj
      rw [hv] at this
      unfold World.cell? at this
      rw [add_block,hb] at this
      simpa [add_spot j hsp,add_off] using this
    |_=>simp at h0
end
theorem zYb {H:Type} {enc:TypeId×Value→H} {P:Program} (hl:laidOutB P=true) {W W':World} (hb:Below W.heap.size W W') {sp:Nat→Bool}:∀{ts:List TypeId} {vs:List Value} {ds:List (DataW H)} {ps:List MemPlace},
    (ts.all fun t=>P.readableRec t&&decide (t<P.types.size))=true→DataW.TrodAll enc P W 0 (fun _=>true) true ts vs ds ps→(∀p∈ps,p.block<W.heap.size)→(∀p∈ps,sp p.block=true)→DataW.TrodAll enc P W' 0 sp true ts vs ds ps
  |[],[],[],ps,_,h,_,_=>h
  |t :: ts,v :: vs,d :: ds,ps,hr,⟨p,q,h1,h2,e⟩,hlt,hsp=>by
    subst e
    simp only [List.all_cons,Bool.and_eq_true,decide_eq_true_eq] at hr
    refine ⟨p,q,WideElems.Trod_stays hl hr.1.1 hr.1.2 h1 (fun x hx=>hb.same (hlt x (List.mem_append_left _ hx))) (fun x hx=>hsp x (List.mem_append_left _ hx)),?_,rfl⟩
    exact zYb hl hb hr.2 h2 (fun x hx=>hlt x (List.mem_append_right _ hx)) (fun x hx=>hsp x (List.mem_append_right _ hx))
theorem zng {H:Type} {enc:TypeId×Value→H} {P:Program} {f:Func} {s:ChangeSpec} {apart fresh handsOn again:Bool} {W W':World} {args:Array Value} {ds gs:List (DataW H)} {before:List MemPlace} {tb:TypeId}
    (hl:laidOutB P=true) (hr:(f.params.toList.all fun t=>P.readableRec t&&decide (t<P.types.size))=true) (hvars:s.vars=[]) (hres:f.resultTypes= #[tb]) (htb:P.underlying tb=some .bool)
    (hW:DataW.Whole enc P f.params.toList s.vars apart W args.toList ds gs before) (hfn:(s.fn H (ds++gs)).results=[.lit (.bool true)]∧(s.fn H (ds++gs)).args=ds∧(s.fn H (ds++gs)).vars=[]) (hb:Below W.heap.size W W'):
    s.post enc P f apart fresh handsOn again W args (.bool true) W':=by
  have hlt:∀p∈before,p.block<W.heap.size:=fun p hp=>hW.lt p hp
  have hold:∀p∈before,(fun b=>decide (b<W.heap.size)) p.block=true:=fun p hp=>by simpa using hlt p hp
  have hWW:=hW
  obtain ⟨pp,q,hA,hV,hbe,hz,hn⟩:=hWW
  rw [hvars] at hV
  obtain ⟨rfl,rfl⟩:=trodVars_none hV
  rw [List.append_nil] at hbe
  subst hbe
  have hargs:∀sp:Nat→Bool,(∀p∈before,sp p.block=true)→DataW.TrodAll enc P W' 0 sp true f.params.toList args.toList (s.fn H (ds++[])).args before:=fun sp hsp=>by
    rw [hfn.2.1];exact zYb hl hb hr hA hlt hsp
  have hvv:∀sp:Nat→Bool,DataW.TrodVars enc P W' sp s.vars (s.fn H (ds++[])).vars []:=fun sp=>by rw [hvars,hfn.2.2];exact rfl
  have hrs:∀(b:Nat) (sp:Nat→Bool) (hd:Bool),DataW.TrodAll enc P W' b sp hd f.resultTypes.toList ((Value.bool true).resultList f.resultTypes.size) (s.fn H (ds++[])).results []:=fun b sp hd=>by
    rw [hfn.1,hres];exact trodAll_mk1 (shut_bool htb _)
  refine ⟨ds,[],before,[],before,[],hW,hrs _ _ _,hargs _ hold,hvv _,World.keptBut_mono (fun p hp=>⟨hp,Or.inr (by simpa using hp)⟩) (hb.frame (· ∈before)),fun _=> ?_⟩
  refine ⟨ok_one hres rfl (okWide_bool_mk htb _),_,_,([]++before)++[],⟨[]++before,[],trodAll_append (hargs _ (fun _ _=>rfl)) (hrs _ _ _),hvv _,rfl,?_,?_⟩,?_⟩
  · intro b off hp
    have hin:MemPlace.cell b off∈before:=by simpa using hp
    rw [hb.frozen (hlt _ hin)]
    exact hz b off hin
  · intro ha;simpa using hn ha
  · intro p hp _;simpa using hp
theorem zBf {H:Type} {enc:TypeId×Value→H} {P:Program} {f:Nat} {fn:Func} {s:ChangeSpec} {apart fresh handsOn again:Bool} {W:World} {args:List Value} {ds gs:List (DataW H)} {before:List MemPlace} {tb:TypeId} {R:List Fa}
    (hl:laidOutB P=true) (hr:(fn.params.toList.all fun t=>P.readableRec t&&decide (t<P.types.size))=true) (hvars:s.vars=[]) (hres:fn.resultTypes= #[tb]) (htb:P.underlying tb=some .bool)
    (hW:DataW.Whole enc P fn.params.toList s.vars apart W args.toArray.toList ds gs before) (hfn:(s.fn H (ds++gs)).results=[.lit (.bool true)]∧(s.fn H (ds++gs)).args=ds∧(s.fn H (ds++gs)).vars=[])
    (hR:Holds (whole W) R) (hc:Con P f args [] R (Y:=Unit) (fun _=>True) (fun _=> .bool true) (fun _=>[]) (fun _=>[])):
    Calls P f args.toArray W fun e W'=>∃v,e= .returned v∧s.post enc P fn apart fresh handsOn again W args.toArray v W':=by
  refine (hc W Hp.emp (whole W) rfl hR (Hp.emp_apart _) (fun _ _ e=>by cases e) (whole_has W)).mono fun e W' ⟨_,he,_,hM⟩=>⟨_,he,?_⟩
  obtain ⟨h,g,m⟩:=hM
  exact zng hl hr hvars hres htb hW hfn ⟨m.kept.os,m.kept.tape,m.kept.output,m.kept.size,fun k hk=>m.kept.block k hk rfl⟩
end Go.Proofs.YtpdbimfnhglhpaaGreat.Sp
namespace Go.Proofs.YtpdbimfnhglhpaaGreat.Sp
open Go Go.RowKit Go.ChangeShapes Go.WideShapes
set_option linter.unusedVariables false
set_option linter.unusedSectionVars false
structure Bk (B:{H:Type}→DataW H→Nat):Prop where
  one:∀{H:Type} (d:DataW H),1≤B d
  slice:∀{H:Type} (es sp:List (DataW H)),(es.map B).sum+1≤B (.slice es sp)
  agg:∀{H:Type} (ps:List (DataW H)),(ps.map B).sum+1≤B (.agg ps)
def mzL {α:Type} (mz:α→Nat) (l:List α):Nat:=(l.map mz).sum+1
def OpensM {α:Type} (B:{H:Type}→DataW H→Nat) (P:Program) (t:TypeId) (r:Rp α) (mz:α→Nat):Prop:=
  ∀{H:Type} (enc:TypeId×Value→H) (W:World) (base:Nat) (sp:Nat→Bool) (held:Bool) (n:Nat) (cs:List Value) (x:DataW H×List MemPlace),DataW.trod enc P W base sp held n t cs=some x→∃y γ,cs=r.enc y γ∧r.ok (whole W) y γ∧mz y≤B x.1
section
variable {B : {H : Type} → DataW H → Nat} {P : Program} {t e : TypeId} {α β : Type} {r : Rp α} {s : Rp β} {mz : α → Nat} {mw : β → Nat}
theorem opensM_int (hB:Bk @B) {k:IntKind} (hu:P.underlying t=some (.int k)):OpensM @B P t (rI k) (fun _=>1):=fun enc W base sp held n cs x h=>by
  obtain ⟨z,rfl,_,hw⟩:=DataW.trod_int hu h
  exact ⟨z,(),rfl,zAf hw,hB.one _⟩
theorem opensM_bool (hB:Bk @B) (hu:P.underlying t=some .bool):OpensM @B P t rB (fun _=>1):=fun enc W base sp held n cs x h=>by
  obtain ⟨z,rfl,_⟩:=DataW.trod_bool hu h
  exact ⟨z,(),rfl,trivial,hB.one _⟩
theorem opensM_slice (hB:Bk @B) (hu:P.underlying t=some (.slice e)) (hc:P.cellsOf e=r.sz) (hpos:0<r.sz) (h:OpensM @B P e r mz):OpensM @B P t (rS r) (mzL mz):=fun enc W base sp held n cs x hx=>by
  rcases Go.Deep.open_slice hu hx with ⟨rfl,_⟩|⟨a,len,cap,m,n',D,Pl,rfl,hb,hl,hm,hmm,hxe,hall⟩
  · exact ⟨[],(none,0),rfl,Sl.nil r _,hB.one _⟩
  · have hle : len ≤ m := by rw [hmm]; split <;> omega
    have each:∀i,i<len→∃y γ,a.spot=none∧AtP (whole W) a.block (a.off+i*r.sz) (r.enc y γ)∧r.ok (whole W) y γ∧mz y≤B (D i):=fun i hi=>by
      obtain ⟨cs',h1,h2⟩:=hall i (by omega)
      obtain ⟨cs0,h10,_⟩:=hall 0 (by omega)
      rw [hc] at h1 h10
      obtain ⟨y,γ,e1,e2,e3⟩:=h enc W base sp held n' cs' _ h2
      obtain ⟨h30,_⟩:=at_of_cells h10 hpos
      rw [Nat.zero_mul,add_zero'] at h30
      obtain ⟨_,h4⟩:=at_of_cells h1 hpos
      refine ⟨y,γ,h30,?_,e2,e3⟩
      rw [← e1];rw [add_block,add_off] at h4;exact h4
    obtain ⟨L,hL,hLs,hLe⟩:∃L:List α,L.length=len∧(L.map mz).sum≤(((List.range len).map D).map B).sum∧∀i y,L[i]? =some y→∃γ,a.spot=none∧AtP (whole W) a.block (a.off+i*r.sz) (r.enc y γ)∧r.ok (whole W) y γ:=by
      clear hall hle hl hx hmm hxe
      induction len with
      |zero=>exact ⟨[],rfl,Nat.zero_le _,fun i y h=>by simp at h⟩
      |succ k ih=>
        obtain ⟨L,h1,h0,h2⟩:=ih (fun i hi=>each i (by omega))
        obtain ⟨y,γ,e1,e2,e3,e4⟩:=each k (by omega)
        refine ⟨L++[y],by simp [h1],?_,fun i z hz=> ?_⟩
        · rw [List.range_succ, List.map_append, List.map_append, List.map_append, List.sum_append, List.sum_append]
          simp only [List.map_cons,List.map_nil,List.sum_cons,List.sum_nil];omega
        rw [List.getElem?_append] at hz
        split at hz
        · exact h2 i z hz
        · rename_i hlt
          have hik:i=k:=by
            have:=(List.getElem?_eq_some_iff.1 hz).1
            simp at this;omega
          subst hik
          rw [h1,Nat.sub_self] at hz
          simp at hz;subst hz
          exact ⟨γ,e1,e2,e3⟩
    subst hL
    refine ⟨L,(some a,cap),rfl,⟨hl,hm,(fun e=>by cases e),fun i y hy=> ?_⟩,?_⟩
    · obtain ⟨γ, h1, h2, h3⟩ := hLe i y hy
      refine ⟨a.block,a.off,γ,?_,h2,h3⟩
      obtain ⟨b,o,sp'⟩:=a
      simp only at h1;subst h1;rfl
    · have k := hB.slice ((List.range L.length).map D) ((List.range (m - L.length)).map fun j => D (L.length + j))
      rw [hxe];unfold mzL
      show _≤B (DataW.slice _ _)
      omega
def Reads2 {H:Type} (enc:TypeId×Value→H) (P:Program) (W:World) (base:Nat) (sp:Nat→Bool) (held:Bool) (n:Nat) (cs:List Value):List (TypeId×Nat)→List (DataW H×List MemPlace)→Prop
  |[],[]=>True
  |q :: ps,x :: xs=>DataW.trod enc P W base sp held n q.1 ((cs.drop q.2).take (P.cellsOf q.1))=some x∧Reads2 enc P W base sp held n cs ps xs
  |_,_=>False
theorem Reads2.of {H:Type} {enc:TypeId×Value→H} {W:World} {base:Nat} {sp:Nat→Bool} {held:Bool} {n:Nat} {cs:List Value}:∀{ps:List (TypeId×Nat)} {xs:List (DataW H×List MemPlace)},xs.length=ps.length→(∀(i:Nat) (q:TypeId×Nat),ps[i]? =some q→DataW.trod enc P W base sp held n q.1 ((cs.drop q.2).take (P.cellsOf q.1))=xs[i]?)→Reads2 enc P W base sp held n cs ps xs
  |[],[],_,_=>trivial
  |[],_ :: _,h,_=>by simp at h
  |_ :: _,[],h,_=>by simp at h
  |q :: ps,x :: xs,hl,h=>⟨by simpa using h 0 q rfl,Reads2.of (by simpa using hl) fun i q' hq=>by simpa using h (i+1) q' (by simpa using hq)⟩
def OpensLM (B:{H:Type}→DataW H→Nat) (P:Program) (ps:List (TypeId×Nat)) (off:Nat) (r:Rp α) (mz:α→Nat):Prop:=
  ∀{H:Type} (enc:TypeId×Value→H) (W:World) (base:Nat) (sp:Nat→Bool) (held:Bool) (n:Nat) (cs:List Value) (xs:List (DataW H×List MemPlace)),Reads2 enc P W base sp held n cs ps xs→∃y γ,(cs.drop off).take r.sz=r.enc y γ∧r.ok (whole W) y γ∧mz y≤(xs.map fun x=>B x.1).sum
theorem opensLM_one {off:Nat} (hc:P.cellsOf t=r.sz) (h:OpensM @B P t r mz):OpensLM @B P [(t,off)] off r mz:=fun enc W base sp held n cs xs hp=>by
  match xs,hp with
  |[x],hp=>
    have hx:=hp.1
    simp only [hc] at hx
    obtain ⟨y,γ,a,b,c⟩:=h enc W base sp held n _ x hx
    exact ⟨y,γ,a,b,by simpa using c⟩
theorem opensLM_cons {off:Nat} {ps:List (TypeId×Nat)} (hc:P.cellsOf t=r.sz) (h:OpensM @B P t r mz) (k:OpensLM @B P ps (off+r.sz) s mw):OpensLM @B P ((t,off) :: ps) off (rP r s) (fun z=>mz z.1+mw z.2):=fun enc W base sp held n cs xs hp=>by
  match xs,hp with
  |x :: xs,hp=>
    have hx:=hp.1
    simp only [hc] at hx
    obtain ⟨y,γ,e1,o1,m1⟩:=h enc W base sp held n _ x hx
    obtain ⟨z,δ,e2,o2,m2⟩:=k enc W base sp held n cs xs hp.2
    refine ⟨(y,z),(γ,δ),?_,⟨o1,o2⟩,by simp only [List.map_cons,List.sum_cons];omega⟩
    show (cs.drop off).take (r.sz+s.sz)=r.enc y γ++s.enc z δ
    rw [← e1,←e2,List.take_add,List.drop_drop]
theorem sum_fst {H:Type} (xs:List (DataW H×List MemPlace)):(xs.map fun x=>B x.1).sum=((xs.map (·.1)).map B).sum:=by
  induction xs with
  |nil=>rfl
  |cons x xs ih=>simp only [List.map_cons,List.sum_cons,ih]
theorem opensM_struct (hB:Bk @B) {fs:List Field} (hu:P.underlying t=some (.struct fs.toArray)) (hc:P.cellsOf t=r.sz) {ps:List (TypeId×Nat)} (hps:fs.map (fun f=>(f.type,f.offset))=ps) (h:OpensLM @B P ps 0 r mz):OpensM @B P t r mz:=fun enc W base sp held n cs x hx=>by
  obtain ⟨xs,n',_,rfl,hl,hxl,hf⟩:=DataW.trod_struct hu hx
  obtain ⟨y,γ,a,b,c⟩:=h enc W base sp held n' cs xs (Reads2.of (by rw [← hps];simpa using hxl) fun i q hq=>by
    rw [← hps,List.getElem?_map] at hq
    obtain ⟨f,hfm,rfl⟩:=Option.map_eq_some_iff.1 hq
    exact hf i f (by simpa using hfm))
  rw [List.drop_zero,List.take_of_length_le (by rw [hl,hc];exact Nat.le_refl _)] at a
  refine ⟨y,γ,a,b,Nat.le_trans c ?_⟩
  rw [sum_fst];have:=hB.agg (xs.map (·.1));simp only;omega
theorem opensM_val {H:Type} {enc:TypeId×Value→H} {W:World} {base:Nat} {sp:Nat→Bool} {held:Bool} {v:Value} {d:DataW H} {p:List MemPlace} (h:OpensM @B P t r mz) (hv:v.cells= #[v]) (h1:r.sz=1) (ht:DataW.Trod enc P W base sp held t v d p):∃y γ,[v]=r.enc y γ∧r.ok (whole W) y γ∧mz y≤B d:=by
  obtain ⟨n,hn⟩:=ht
  obtain ⟨y,γ,e,o,mm⟩:=h enc W base sp held n _ _ hn
  refine ⟨y,γ,?_,o,mm⟩
  rw [← e,hv]
theorem opensM_sl {H:Type} {enc:TypeId×Value→H} {W:World} {base:Nat} {sp:Nat→Bool} {held:Bool} {v:Value} {d:DataW H} {p:List MemPlace} {rr:Reach} {b0:Nat} (h:OpensM @B P t r mz) (h1:r.sz=1) (hu:P.underlying t=some (.slice e)) (hok:Value.okWide P W rr b0 t v) (ht:DataW.Trod enc P W base sp held t v d p):∃y γ,[v]=r.enc y γ∧r.ok (whole W) y γ∧mz y≤B d:=by
  obtain ⟨a,b,c,rfl⟩:∃a b c,v= .slice a b c:=by
    simp only [Value.okWide,hu] at hok
    cases v <;> simp_all [Cell.okWide,Cell.ok]
  exact opensM_val h rfl h1 ht
theorem mzL_len {l:List α} (h:∀x,1≤mz x):l.length+1≤mzL mz l:=by
  unfold mzL
  induction l with
  |nil=>simp
  |cons a t ih=>simp only [List.length_cons,List.map_cons,List.sum_cons];have:=h a;omega
theorem mzL_mem {l:List α} {x:α} (h:x∈l):mz x+1≤mzL mz l:=by
  unfold mzL
  induction l with
  |nil=>cases h
  |cons a t ih=>
    simp only [List.map_cons,List.sum_cons]
    rcases List.mem_cons.1 h with rfl|h
    · omega
    · have:=ih h;omega
end
end Go.Proofs.YtpdbimfnhglhpaaGreat.Sp
namespace Go.Proofs.YtpdbimfnhglhpaaGreat.Sp
open Go
set_option linter.unusedVariables false
theorem ty3:Ty ya 3 1 false:=⟨by kernel_rfl,by kernel_rfl⟩
theorem sz3:(ya.info? 3).map (·.size)=some 1:=by kernel_rfl
theorem inf3:Inf ya 3 1 8 (.int .i64 0):=Inf.mk' (by kernel_rfl)
theorem zr3:Zero ya 3 (.int .i64 0):=by unfold Zero;kernel_rfl
theorem ty4:Ty ya 4 1 false:=⟨by kernel_rfl,by kernel_rfl⟩
theorem sz4:(ya.info? 4).map (·.size)=some 1:=by kernel_rfl
theorem ty28:Ty ya 28 1 false:=⟨by kernel_rfl,by kernel_rfl⟩
theorem sz28:(ya.info? 28).map (·.size)=some 1:=by kernel_rfl
theorem zr28:Zero ya 28 (.slice none 0 0):=by unfold Zero;kernel_rfl
theorem ty30:Ty ya 30 2 true:=⟨by kernel_rfl,by kernel_rfl⟩
theorem sz30:(ya.info? 30).map (·.size)=some 2:=by kernel_rfl
theorem zr30:Zero ya 30 (.agg #[.bool false,.slice none 0 0]):=by unfold Zero;kernel_rfl
theorem ty32:Ty ya 32 4 true:=⟨by kernel_rfl,by kernel_rfl⟩
theorem sz32:(ya.info? 32).map (·.size)=some 4:=by kernel_rfl
theorem inf32:Inf ya 32 4 64 (.agg #[.bool false,.slice none 0 0,.bool false,.slice none 0 0]):=Inf.mk' (by kernel_rfl)
theorem zr32:Zero ya 32 (.agg #[.bool false,.slice none 0 0,.bool false,.slice none 0 0]):=by unfold Zero;kernel_rfl
theorem ty46:Ty ya 46 1 false:=⟨by kernel_rfl,by kernel_rfl⟩
theorem sz46:(ya.info? 46).map (·.size)=some 1:=by kernel_rfl
theorem inf46:Inf ya 46 1 24 (.slice none 0 0):=Inf.mk' (by kernel_rfl)
theorem ty60:Ty ya 60 1 false:=⟨by kernel_rfl,by kernel_rfl⟩
theorem sz60:(ya.info? 60).map (·.size)=some 1:=by kernel_rfl
theorem inf60:Inf ya 60 1 24 (.slice none 0 0):=Inf.mk' (by kernel_rfl)
theorem zr60:Zero ya 60 (.slice none 0 0):=by unfold Zero;kernel_rfl
theorem ty62:Ty ya 62 1 false:=⟨by kernel_rfl,by kernel_rfl⟩
theorem sz62:(ya.info? 62).map (·.size)=some 1:=by kernel_rfl
theorem inf62:Inf ya 62 1 24 (.slice none 0 0):=Inf.mk' (by kernel_rfl)
theorem ty64:Ty ya 64 1 false:=⟨by kernel_rfl,by kernel_rfl⟩
theorem sz64:(ya.info? 64).map (·.size)=some 1:=by kernel_rfl
theorem inf64:Inf ya 64 1 24 (.slice none 0 0):=Inf.mk' (by kernel_rfl)
theorem ty74:Ty ya 74 1 false:=⟨by kernel_rfl,by kernel_rfl⟩
theorem sz74:(ya.info? 74).map (·.size)=some 1:=by kernel_rfl
theorem zr74:Zero ya 74 (.slice none 0 0):=by unfold Zero;kernel_rfl
theorem inf96:Inf ya 96 8 128 (.agg #[.bool false,.slice none 0 0,.bool false,.slice none 0 0,.bool false,.slice none 0 0,.bool false,.slice none 0 0]):=Inf.mk' (by kernel_rfl)
theorem zr96:Zero ya 96 (.agg #[.bool false,.slice none 0 0,.bool false,.slice none 0 0,.bool false,.slice none 0 0,.bool false,.slice none 0 0]):=by unfold Zero;kernel_rfl
theorem ty133:Ty ya 133 1 false:=⟨by kernel_rfl,by kernel_rfl⟩
theorem sz133:(ya.info? 133).map (·.size)=some 1:=by kernel_rfl
theorem inf133:Inf ya 133 1 4 (.int .u32 0):=Inf.mk' (by kernel_rfl)
theorem ty134:Ty ya 134 1 false:=⟨by kernel_rfl,by kernel_rfl⟩
theorem sz134:(ya.info? 134).map (·.size)=some 1:=by kernel_rfl
theorem zr134:Zero ya 134 (.slice none 0 0):=by unfold Zero;kernel_rfl
theorem ty137:Ty ya 137 1 false:=⟨by kernel_rfl,by kernel_rfl⟩
theorem sz137:(ya.info? 137).map (·.size)=some 1:=by kernel_rfl
theorem zr137:Zero ya 137 (.nilFunc):=by unfold Zero;kernel_rfl
theorem ty182:Ty ya 182 1 false:=⟨by kernel_rfl,by kernel_rfl⟩
theorem sz182:(ya.info? 182).map (·.size)=some 1:=by kernel_rfl
theorem zr182:Zero ya 182 (.int .u64 0):=by unfold Zero;kernel_rfl
theorem mixed:ya.follows .mixedOrders=true:=by kernel_rfl
theorem ce11:CanEnter ya 11:=canEnter Tryz.func11 rfl (by kernel_rfl)
theorem ce12:CanEnter ya 12:=canEnter Tryz.func12 rfl (by kernel_rfl)
theorem ce13:CanEnter ya 13:=canEnter Tryz.func13 rfl (by kernel_rfl)
theorem ce14:CanEnter ya 14:=canEnter Tryz.func14 rfl (by kernel_rfl)
theorem ce17:CanEnter ya 17:=canEnter Tryz.func17 rfl (by kernel_rfl)
theorem ce18:CanEnter ya 18:=canEnter Tryz.func18 rfl (by kernel_rfl)
theorem ce19:CanEnter ya 19:=canEnter Tryz.func19 rfl (by kernel_rfl)
theorem ce20:CanEnter ya 20:=canEnter Tryz.func20 rfl (by kernel_rfl)
theorem ce21:CanEnter ya 21:=canEnter Tryz.func21 rfl (by kernel_rfl)
theorem ce22:CanEnter ya 22:=canEnter Tryz.func22 rfl (by kernel_rfl)
theorem ce23:CanEnter ya 23:=canEnter Tryz.func23 rfl (by kernel_rfl)
theorem ce24:CanEnter ya 24:=canEnter Tryz.func24 rfl (by kernel_rfl)
theorem ce25:CanEnter ya 25:=canEnter Tryz.func25 rfl (by kernel_rfl)
theorem ce26:CanEnter ya 26:=canEnter Tryz.func26 rfl (by kernel_rfl)
theorem ce27:CanEnter ya 27:=canEnter Tryz.func27 rfl (by kernel_rfl)
theorem ce28:CanEnter ya 28:=canEnter Tryz.func28 rfl (by kernel_rfl)
theorem ce29:CanEnter ya 29:=canEnter Tryz.func29 rfl (by kernel_rfl)
theorem ce30:CanEnter ya 30:=canEnter Tryz.func30 rfl (by kernel_rfl)
theorem ce31:CanEnter ya 31:=canEnter Tryz.func31 rfl (by kernel_rfl)
theorem ce32:CanEnter ya 32:=canEnter Tryz.func32 rfl (by kernel_rfl)
theorem ce47:CanEnter ya 47:=canEnter Tryz.func47 rfl (by kernel_rfl)
theorem ce48:CanEnter ya 48:=canEnter Tryz.func48 rfl (by kernel_rfl)
theorem ce52:CanEnter ya 52:=canEnter Tryz.func52 rfl (by kernel_rfl)
theorem ce54:CanEnter ya 54:=canEnter Tryz.func54 rfl (by kernel_rfl)
theorem ce56:CanEnter ya 56:=canEnter Tryz.func56 rfl (by kernel_rfl)
theorem ce57:CanEnter ya 57:=canEnter Tryz.func57 rfl (by kernel_rfl)
theorem ce60:CanEnter ya 60:=canEnter Tryz.func60 rfl (by kernel_rfl)
theorem ce61:CanEnter ya 61:=canEnter Tryz.func61 rfl (by kernel_rfl)
theorem ce62:CanEnter ya 62:=canEnter Tryz.func62 rfl (by kernel_rfl)
theorem ce63:CanEnter ya 63:=canEnter Tryz.func63 rfl (by kernel_rfl)
theorem ce64:CanEnter ya 64:=canEnter Tryz.func64 rfl (by kernel_rfl)
theorem ce69:CanEnter ya 69:=canEnter Tryz.func69 rfl (by kernel_rfl)
theorem ce70:CanEnter ya 70:=canEnter Tryz.func70 rfl (by kernel_rfl)
theorem ce71:CanEnter ya 71:=canEnter Tryz.func71 rfl (by kernel_rfl)
theorem ce72:CanEnter ya 72:=canEnter Tryz.func72 rfl (by kernel_rfl)
theorem ce73:CanEnter ya 73:=canEnter Tryz.func73 rfl (by kernel_rfl)
theorem ce74:CanEnter ya 74:=canEnter Tryz.func74 rfl (by kernel_rfl)
theorem ce75:CanEnter ya 75:=canEnter Tryz.func75 rfl (by kernel_rfl)
theorem ce76:CanEnter ya 76:=canEnter Tryz.func76 rfl (by kernel_rfl)
theorem ce77:CanEnter ya 77:=canEnter Tryz.func77 rfl (by kernel_rfl)
theorem ce78:CanEnter ya 78:=canEnter Tryz.func78 rfl (by kernel_rfl)
theorem ce79:CanEnter ya 79:=canEnter Tryz.func79 rfl (by kernel_rfl)
theorem ce80:CanEnter ya 80:=canEnter Tryz.func80 rfl (by kernel_rfl)
theorem ce81:CanEnter ya 81:=canEnter Tryz.func81 rfl (by kernel_rfl)
theorem ce82:CanEnter ya 82:=canEnter Tryz.func82 rfl (by kernel_rfl)
theorem ce83:CanEnter ya 83:=canEnter Tryz.func83 rfl (by kernel_rfl)
theorem ce84:CanEnter ya 84:=canEnter Tryz.func84 rfl (by kernel_rfl)
theorem ce85:CanEnter ya 85:=canEnter Tryz.func85 rfl (by kernel_rfl)
theorem ce86:CanEnter ya 86:=canEnter Tryz.func86 rfl (by kernel_rfl)
theorem ce87:CanEnter ya 87:=canEnter Tryz.func87 rfl (by kernel_rfl)
theorem ce88:CanEnter ya 88:=canEnter Tryz.func88 rfl (by kernel_rfl)
theorem ce89:CanEnter ya 89:=canEnter Tryz.func89 rfl (by kernel_rfl)
theorem ce90:CanEnter ya 90:=canEnter Tryz.func90 rfl (by kernel_rfl)
theorem ce91:CanEnter ya 91:=canEnter Tryz.func91 rfl (by kernel_rfl)
theorem ce92:CanEnter ya 92:=canEnter Tryz.func92 rfl (by kernel_rfl)
theorem ce93:CanEnter ya 93:=canEnter Tryz.func93 rfl (by kernel_rfl)
theorem ce94:CanEnter ya 94:=canEnter Tryz.func94 rfl (by kernel_rfl)
theorem ce95:CanEnter ya 95:=canEnter Tryz.func95 rfl (by kernel_rfl)
theorem ce96:CanEnter ya 96:=canEnter Tryz.func96 rfl (by kernel_rfl)
theorem ce97:CanEnter ya 97:=canEnter Tryz.func97 rfl (by kernel_rfl)
theorem ce98:CanEnter ya 98:=canEnter Tryz.func98 rfl (by kernel_rfl)
theorem ce99:CanEnter ya 99:=canEnter Tryz.func99 rfl (by kernel_rfl)
theorem ce100:CanEnter ya 100:=canEnter Tryz.func100 rfl (by kernel_rfl)
theorem ce126:CanEnter ya 126:=canEnter Tryz.func126 rfl (by kernel_rfl)
theorem ce127:CanEnter ya 127:=canEnter Tryz.func127 rfl (by kernel_rfl)
theorem ce129:CanEnter ya 129:=canEnter Tryz.func129 rfl (by kernel_rfl)
theorem ce130:CanEnter ya 130:=canEnter Tryz.func130 rfl (by kernel_rfl)
theorem ce132:CanEnter ya 132:=canEnter Tryz.func132 rfl (by kernel_rfl)
theorem ce138:CanEnter ya 138:=canEnter Tryz.func138 rfl (by kernel_rfl)
theorem ce139:CanEnter ya 139:=canEnter Tryz.func139 rfl (by kernel_rfl)
theorem ce140:CanEnter ya 140:=canEnter Tryz.func140 rfl (by kernel_rfl)
theorem ce141:CanEnter ya 141:=canEnter Tryz.func141 rfl (by kernel_rfl)
theorem ce142:CanEnter ya 142:=canEnter Tryz.func142 rfl (by kernel_rfl)
theorem ce147:CanEnter ya 147:=canEnter Tryz.func147 rfl (by kernel_rfl)
theorem ce148:CanEnter ya 148:=canEnter Tryz.func148 rfl (by kernel_rfl)
theorem ce149:CanEnter ya 149:=canEnter Tryz.func149 rfl (by kernel_rfl)
theorem ce150:CanEnter ya 150:=canEnter Tryz.func150 rfl (by kernel_rfl)
theorem ce151:CanEnter ya 151:=canEnter Tryz.func151 rfl (by kernel_rfl)
theorem ce152:CanEnter ya 152:=canEnter Tryz.func152 rfl (by kernel_rfl)
theorem ce155:CanEnter ya 155:=canEnter Tryz.func155 rfl (by kernel_rfl)
theorem ce156:CanEnter ya 156:=canEnter Tryz.func156 rfl (by kernel_rfl)
theorem ce157:CanEnter ya 157:=canEnter Tryz.func157 rfl (by kernel_rfl)
theorem ce158:CanEnter ya 158:=canEnter Tryz.func158 rfl (by kernel_rfl)
theorem ce159:CanEnter ya 159:=canEnter Tryz.func159 rfl (by kernel_rfl)
theorem ce160:CanEnter ya 160:=canEnter Tryz.func160 rfl (by kernel_rfl)
theorem ce161:CanEnter ya 161:=canEnter Tryz.func161 rfl (by kernel_rfl)
theorem ce162:CanEnter ya 162:=canEnter Tryz.func162 rfl (by kernel_rfl)
theorem ce163:CanEnter ya 163:=canEnter Tryz.func163 rfl (by kernel_rfl)
theorem ce164:CanEnter ya 164:=canEnter Tryz.func164 rfl (by kernel_rfl)
theorem ce165:CanEnter ya 165:=canEnter Tryz.func165 rfl (by kernel_rfl)
theorem ce166:CanEnter ya 166:=canEnter Tryz.func166 rfl (by kernel_rfl)
theorem ce167:CanEnter ya 167:=canEnter Tryz.func167 rfl (by kernel_rfl)
theorem ce168:CanEnter ya 168:=canEnter Tryz.func168 rfl (by kernel_rfl)
theorem ce169:CanEnter ya 169:=canEnter Tryz.func169 rfl (by kernel_rfl)
theorem ce170:CanEnter ya 170:=canEnter Tryz.func170 rfl (by kernel_rfl)
theorem ce171:CanEnter ya 171:=canEnter Tryz.func171 rfl (by kernel_rfl)
theorem ce172:CanEnter ya 172:=canEnter Tryz.func172 rfl (by kernel_rfl)
theorem ce173:CanEnter ya 173:=canEnter Tryz.func173 rfl (by kernel_rfl)
theorem ce174:CanEnter ya 174:=canEnter Tryz.func174 rfl (by kernel_rfl)
theorem ce175:CanEnter ya 175:=canEnter Tryz.func175 rfl (by kernel_rfl)
theorem ce176:CanEnter ya 176:=canEnter Tryz.func176 rfl (by kernel_rfl)
theorem ce177:CanEnter ya 177:=canEnter Tryz.func177 rfl (by kernel_rfl)
theorem ce178:CanEnter ya 178:=canEnter Tryz.func178 rfl (by kernel_rfl)
theorem ce179:CanEnter ya 179:=canEnter Tryz.func179 rfl (by kernel_rfl)
theorem ce180:CanEnter ya 180:=canEnter Tryz.func180 rfl (by kernel_rfl)
theorem ce198:CanEnter ya 198:=canEnter Tryz.func198 rfl (by kernel_rfl)
theorem ce206:CanEnter ya 206:=canEnter Tryz.func206 rfl (by kernel_rfl)
theorem ce207:CanEnter ya 207:=canEnter Tryz.func207 rfl (by kernel_rfl)
theorem ce208:CanEnter ya 208:=canEnter Tryz.func208 rfl (by kernel_rfl)
theorem ce209:CanEnter ya 209:=canEnter Tryz.func209 rfl (by kernel_rfl)
theorem ce211:CanEnter ya 211:=canEnter Tryz.func211 rfl (by kernel_rfl)
theorem ce213:CanEnter ya 213:=canEnter Tryz.func213 rfl (by kernel_rfl)
theorem ce214:CanEnter ya 214:=canEnter Tryz.func214 rfl (by kernel_rfl)
theorem ce215:CanEnter ya 215:=canEnter Tryz.func215 rfl (by kernel_rfl)
theorem ce217:CanEnter ya 217:=canEnter Tryz.func217 rfl (by kernel_rfl)
theorem ce218:CanEnter ya 218:=canEnter Tryz.func218 rfl (by kernel_rfl)
theorem ce219:CanEnter ya 219:=canEnter Tryz.func219 rfl (by kernel_rfl)
theorem ce220:CanEnter ya 220:=canEnter Tryz.func220 rfl (by kernel_rfl)
theorem ce221:CanEnter ya 221:=canEnter Tryz.func221 rfl (by kernel_rfl)
theorem ce222:CanEnter ya 222:=canEnter Tryz.func222 rfl (by kernel_rfl)
theorem ce223:CanEnter ya 223:=canEnter Tryz.func223 rfl (by kernel_rfl)
theorem ce224:CanEnter ya 224:=canEnter Tryz.func224 rfl (by kernel_rfl)
theorem ce225:CanEnter ya 225:=canEnter Tryz.func225 rfl (by kernel_rfl)
theorem ce226:CanEnter ya 226:=canEnter Tryz.func226 rfl (by kernel_rfl)
theorem ce227:CanEnter ya 227:=canEnter Tryz.func227 rfl (by kernel_rfl)
theorem ce228:CanEnter ya 228:=canEnter Tryz.func228 rfl (by kernel_rfl)
theorem ce229:CanEnter ya 229:=canEnter Tryz.func229 rfl (by kernel_rfl)
theorem ce230:CanEnter ya 230:=canEnter Tryz.func230 rfl (by kernel_rfl)
theorem ce231:CanEnter ya 231:=canEnter Tryz.func231 rfl (by kernel_rfl)
theorem ce232:CanEnter ya 232:=canEnter Tryz.func232 rfl (by kernel_rfl)
theorem ce233:CanEnter ya 233:=canEnter Tryz.func233 rfl (by kernel_rfl)
theorem ce234:CanEnter ya 234:=canEnter Tryz.func234 rfl (by kernel_rfl)
theorem ce235:CanEnter ya 235:=canEnter Tryz.func235 rfl (by kernel_rfl)
theorem ce250:CanEnter ya 250:=canEnter Tryz.func250 rfl (by kernel_rfl)
theorem ce251:CanEnter ya 251:=canEnter Tryz.func251 rfl (by kernel_rfl)
theorem ce252:CanEnter ya 252:=canEnter Tryz.func252 rfl (by kernel_rfl)
theorem ce253:CanEnter ya 253:=canEnter Tryz.func253 rfl (by kernel_rfl)
theorem ce254:CanEnter ya 254:=canEnter Tryz.func254 rfl (by kernel_rfl)
theorem ce255:CanEnter ya 255:=canEnter Tryz.func255 rfl (by kernel_rfl)
theorem ce256:CanEnter ya 256:=canEnter Tryz.func256 rfl (by kernel_rfl)
theorem ce257:CanEnter ya 257:=canEnter Tryz.func257 rfl (by kernel_rfl)
theorem ce258:CanEnter ya 258:=canEnter Tryz.func258 rfl (by kernel_rfl)
theorem ce259:CanEnter ya 259:=canEnter Tryz.func259 rfl (by kernel_rfl)
theorem ce260:CanEnter ya 260:=canEnter Tryz.func260 rfl (by kernel_rfl)
theorem ce265:CanEnter ya 265:=canEnter Tryz.func265 rfl (by kernel_rfl)
end Go.Proofs.YtpdbimfnhglhpaaGreat.Sp
namespace Go.Proofs.YtpdbimfnhglhpaaGreat.Sp
open Go
set_option linter.unusedVariables false
theorem laid:laidOutB ya=true:=by kernel_rfl
end Go.Proofs.YtpdbimfnhglhpaaGreat.Sp
namespace Go.Proofs.YtpdbimfnhglhpaaGreat.Sp
open Go
set_option linter.unusedVariables false
theorem rowsIn_FR {ro:Option Nat} {k:Nat} {P:Program} {row:String} {args:Array Value} {w:World} {R:Value→World→Prop} (h:Rows P row args w R):RowsIn (FR ro) k P row args w R:=fun c cs _=>by
  obtain ⟨v,w',r,s⟩:=h c cs
  refine ⟨v,w',r,?_⟩
  have:StepsIn (Machine.fenced P Fence.wide) P (lone (Frame.ofRow P row args .normal) (c :: cs) w) (lone (c.finish v) cs w'):=stepsIn_wide.2 s
  cases ro <;> exact this
def noDefer (ops:Array Oper):Bool:=ops.all fun o=>match o.op with| .defer _=>false|_=>true
theorem noDefer_spec {ops:Array Oper} (h:noDefer ops=true) {i:Nat} {o:Oper} (hi:ops[i]? =some o):∀c,o.op≠ .defer c:=fun c e=>by
  have h1:=Array.all_eq_true.1 h
  obtain ⟨hlt,hget⟩:=Array.getElem?_eq_some_iff.1 hi
  have h2:=h1 i hlt
  rw [hget,e] at h2
  cases h2
section
variable {P : Program} {Q : Exit → Act → World → Prop} {ops : Array Oper}
def calm (Q:Exit→Act→World→Prop):Exit→Act→World→Prop
  | .panic _,_,_=>False
  | .outgrown,_,_=>False
  |e,a,w=>Q e a w
theorem calm_out (Q:Exit→Act→World→Prop):¬LetsOut (calm Q):=fun ⟨_,_,h⟩=>h
theorem calm_panic (Q:Exit→Act→World→Prop):PanicOk (calm Q):=fun _ _ _ _ _ h=>h
theorem calm_le (Q:Exit→Act→World→Prop):∀e a w,calm Q e a w→Q e a w:=fun e a w h=>by
  cases e <;> first|exact h|exact h.elim
theorem wpOp_FR {ro:Option Nat} (hnd:noDefer ops=true) {i:Nat} {K:Act→World→Prop} {a:Act} {w:World} (h:wpOp P ops (calm Q) i K a w):wpOpIn (FR ro) 0 P ops (calm Q) i K a w:=by
  unfold wpOp at h
  unfold wpOpIn
  cases ho:ops[i]? with
  |none=>simpa [ho] using h
  |some o=>
    simp only [ho] at h ⊢
    split
    · rename_i hw
      rw [if_pos hw] at h
      have h:=h.resolve_right (fun k=>calm_out Q k.2)
      refine ⟨fun _ _=>trivial,?_⟩
      rw [Oper.semAt_eq _ _ _ (noDefer_spec hnd ho)]
      unfold Oper.wp at h
      revert h
      cases (execOp a.eval o).run P w with
      |ok n w'=>
        cases n with
        |enter f args=>exact fun h=>⟨fun e=>(by cases e),calls_FR h⟩
        |row r args=>exact fun h=>⟨fun e=>(by cases e),rowsIn_FR h⟩
        |_=>first|exact id|exact False.elim
      |halt x w'=>cases x <;> first|exact id|exact False.elim
    · rename_i hw
      rw [if_neg hw] at h
      exact ⟨fun _ _=>trivial,h⟩
theorem wpAny_FR {ro:Option Nat} (hnd:noDefer ops=true):∀(k:Nat) (L:Array Bool) (a:Act) (w:World),wpAny P .any ops (calm Q) k L a w→wpAnyIn (FR ro) 0 P .any ops (calm Q) k L a w
  |0,_,_,_,h=>h
  |k+1,_,_,_,h=>⟨h.1,fun i hi=>wpOpIn_mono (fun a' w' h'=>wpAny_FR hnd k _ a' w' h') (wpOp_FR hnd (h.2 i hi))⟩
end
section
variable {P : Program} {c : Cx} {n : Sz} {Q : Exit → Act → World → Prop} {m : Fm} {O OW : List As} {R : List Fa}
theorem zCf {ro:Option Nat} (wi:Nat) {id:Nat} {l:List Oper} (hm:P.follows .mixedOrders=true) (hs:Region.noSelect l.toArray=true) (hnd:noDefer l.toArray=true) (h:RunD P l.toArray (calm Q) c n wi l.length (Array.replicate l.length false) m OW O R):RunC (ro:=ro) P Q c n (.region id l.toArray true) m (OW++O) R:=by
  intro a w f mm
  obtain ⟨hh,g,mm⟩:=mm
  obtain ⟨hw,hr,ap,e,s1,s2⟩:=Sep.split mm.sep
  subst e
  have hcl:Closed l.toArray wi (Array.replicate l.length false):=by
    intro q o ho ht
    have hsz:q<l.length:=by simpa using (Array.getElem?_eq_some_iff.1 ho).1
    simp [Array.getD_eq_getD_getElem?,hsz] at ht
  have:=h (calm_panic Q) hs hcl a w.drew hw hr g f s1 s2 ap mm.drew
  have h2:=wpAny_of_I _ _ _ _ this
  refine wpIn_mono (wpIn_region_any hm (wpAny_FR hnd _ _ _ _ ?_)) (calm_le Q)
  simpa using h2
theorem zDf {ops:Array Oper} {wi k:Nat} {L:Array Bool} (hr:Region.ready .any ops L=[]) (h:Post c n Q .normal m (OW++O) R):RunD P ops (calm Q) c n wi k L m OW O R:=zU hr (fun a w f mm=>h a w f mm)
end
end Go.Proofs.YtpdbimfnhglhpaaGreat.Sp
namespace Go.Proofs.YtpdbimfnhglhpaaGreat.Big
def trimL:List Int→List Int
  |[]=>[]
  |x :: l=>match trimL l with
    |[]=>if x=0 then [] else [x]
    |y :: t=>x :: y :: t
theorem trimL_append_zero:∀l:List Int,trimL (l++[0])=trimL l
  |[]=>by simp [trimL]
  |x :: l=>by simp only [List.cons_append,trimL,trimL_append_zero l]
theorem trimL_append_ne {y:Int} (h:y≠0):∀l:List Int,trimL (l++[y])=l++[y]
  |[]=>by simp [trimL,h]
  |x :: l=>by
    have:=trimL_append_ne h l
    simp only [List.cons_append,trimL,this]
    cases l <;> rfl
theorem take_split (l:List Int) {k:Nat} (h0:0<k) (h:k≤l.length):l.take k=l.take (k - 1)++[l.getD (k - 1) 0]:=by
  obtain ⟨j,rfl⟩:∃j,k=j+1:=⟨k - 1,by omega⟩
  rw [List.take_add_one]
  have hj:j<l.length:=by omega
  simp [List.getElem?_eq_getElem hj,List.getD]
theorem trim_go (l:List Int) {k:Nat} (h0:0<k) (h:k≤l.length) (hz:l.getD (k - 1) 0=0):trimL (l.take k)=trimL (l.take (k - 1)):=by
  rw [take_split l h0 h,hz,trimL_append_zero]
theorem trim_stop (l:List Int) {k:Nat} (h:k≤l.length) (hz:¬(0<k∧l.getD (k - 1) 0=0)):trimL (l.take k)=l.take k:=by
  by_cases h0:0<k
  · have hne : l.getD (k - 1) 0 ≠ 0 := fun e => hz ⟨h0, e⟩
    rw [take_split l h0 h,trimL_append_ne hne]
  · have : k = 0 := by omega
    subst this;simp [trimL]
theorem getD_take (l:List Int) {j k:Nat} (h:j<k):(l.take k).getD j 0=l.getD j 0:=by
  simp [List.getD,h]
def valL:List Int→Int
  |[]=>0
  |d :: l=>d+1000000000*valL l
def okL (l:List Int):Prop:=∀d∈l,0≤d∧d<1000000000
def pw (i:Nat):Int:=1000000000^i
theorem pw_succ (i:Nat):pw (i+1)=1000000000*pw i:=by unfold pw;rw [Int.pow_succ,Int.mul_comm]
theorem pw_zero:pw 0=1:=rfl
theorem pw_pos:∀i:Nat,0<pw i
  |0=>by decide
  |i+1=>by have:=pw_pos i;rw [pw_succ];omega
theorem pw_mono {i j:Nat} (h:i≤j):pw i≤pw j:=by
  induction j with
  | zero => have : i = 0 := by omega
            subst this;exact Int.le_refl _
  |succ j ih=>
    by_cases e:i=j+1
    · subst e;exact Int.le_refl _
    · have:=ih (by omega);have h0:=pw_pos j;rw [pw_succ];omega
theorem okL_nil:okL []:=fun d h=>by cases h
theorem okL_cons {d:Int} {l:List Int}:okL (d :: l)↔(0≤d∧d<1000000000)∧okL l:=by
  constructor
  · intro h;exact ⟨h d (by simp),fun x hx=>h x (by simp [hx])⟩
  · rintro ⟨h1, h2⟩ x hx
    rcases List.mem_cons.1 hx with rfl|hx
    · exact h1
    · exact h2 x hx
theorem okL_append {l k:List Int} (h:okL l) (h':okL k):okL (l++k):=fun d hd=>by
  rcases List.mem_append.1 hd with hd|hd
  · exact h d hd
  · exact h' d hd
theorem okL_snoc {l:List Int} {d:Int} (h:okL l) (h0:0≤d) (h1:d<1000000000):okL (l++[d]):=okL_append h (fun x hx=>by simp at hx;subst hx;exact ⟨h0,h1⟩)
theorem okL_take {l:List Int} (h:okL l) (k:Nat):okL (l.take k):=fun d hd=>h d (List.mem_of_mem_take hd)
theorem okL_getD {l:List Int} (h:okL l) (i:Nat):0≤l.getD i 0∧l.getD i 0<1000000000:=by
  by_cases hi:i<l.length
  · have : l.getD i 0 = l[i] := by simp [List.getD, hi]
    rw [this];exact h _ (List.getElem_mem hi)
  · have : l.getD i 0 = 0 := by simp [List.getD, List.getElem?_eq_none (Nat.le_of_not_lt hi)]
    rw [this];exact ⟨Int.le_refl _,by decide⟩
theorem valL_append:∀(l k:List Int),valL (l++k)=valL l+pw l.length*valL k
  |[],k=>by simp [valL,pw_zero]
  |d :: l,k=>by
    simp only [List.cons_append,valL,valL_append l k,List.length_cons,pw_succ]
    rw [Int.mul_add,←Int.mul_assoc,←Int.add_assoc]
theorem valL_snoc (l:List Int) (d:Int):valL (l++[d])=valL l+pw l.length*d:=by rw [valL_append];simp [valL]
theorem valL_nonneg:∀{l:List Int},okL l→0≤valL l
  |[],_=>Int.le_refl _
  |d :: l,h=>by
    have h':=okL_cons.1 h
    have:=valL_nonneg h'.2
    simp only [valL];omega
theorem valL_lt:∀{l:List Int},okL l→valL l<pw l.length
  |[],_=>by simp [valL,pw_zero]
  |d :: l,h=>by
    have h':=okL_cons.1 h
    have:=valL_lt h'.2
    simp only [valL,List.length_cons,pw_succ];omega
theorem valL_zeros:∀n:Nat,valL (List.replicate n 0)=0
  |0=>rfl
  |n+1=>by simp [List.replicate_succ,valL,valL_zeros n]
theorem valL_take_succ (l:List Int) (i:Nat):valL (l.take (i+1))=valL (l.take i)+pw i*l.getD i 0:=by
  by_cases hi:i<l.length
  · rw [take_split l (by omega) (by omega), valL_snoc]
    simp [show min i l.length=i by omega]
  · have e : l.getD i 0 = 0 := by simp [List.getD, List.getElem?_eq_none (Nat.le_of_not_lt hi)]
    rw [e,List.take_of_length_le (by omega),List.take_of_length_le (by omega)];simp
theorem valL_trim:∀l:List Int,valL (trimL l)=valL l
  |[]=>rfl
  |x :: l=>by
    have:=valL_trim l
    simp only [trimL]
    cases ht:trimL l with
    |nil=>
      rw [ht] at this
      simp only [valL] at this ⊢
      by_cases hx:x=0
      · subst hx;simp [valL];omega
      · simp [hx,valL];omega
    |cons y t=>
      rw [ht] at this
      simp only [valL] at this ⊢
      omega
def digsF:Nat→Nat→List Int
  |0,_=>[]
  |f+1,n=>if n=0 then [] else ((n%1000000000:Nat):Int) :: digsF f (n / 1000000000)
def digs (n:Nat):List Int:=digsF n n
theorem digsF_more:∀(f n:Nat),n≤f→digsF (f+1) n=digsF f n
  |0,n,h=>by
    have:n=0:=by omega
    subst this;rfl
  |f+1,n,h=>by
    rw [digsF]
    conv=>rhs;rw [digsF]
    by_cases hn:n=0
    · simp [hn]
    · simp only [hn, if_false]
      rw [digsF_more f (n / 1000000000) (by omega)]
theorem digsF_eq:∀(f n:Nat),n≤f→digsF f n=digs n
  |0,n,h=>by
    have:n=0:=by omega
    subst this;rfl
  |f+1,n,h=>by
    by_cases e:n=f+1
    · subst e;rfl
    · rw [digsF_more f n (by omega)];exact digsF_eq f n (by omega)
theorem digs_zero:digs 0=[]:=rfl
theorem digs_pos {n:Nat} (h:n≠0):digs n=((n%1000000000:Nat):Int) :: digs (n / 1000000000):=by
  obtain ⟨m,rfl⟩:∃m,n=m+1:=⟨n - 1,by omega⟩
  unfold digs
  rw [digsF]
  simp only [h,if_false]
  congr 1
  exact digsF_eq _ _ (by omega)
theorem digs_nil {n:Nat}:digs n=[]↔n=0:=by
  constructor
  · intro h
    by_cases e:n=0
    · exact e
    · rw [digs_pos e] at h;cases h
  · rintro rfl;rfl
theorem digs_ok (n:Nat):okL (digs n):=by
  induction n using Nat.strongRecOn with
  |_ n ih=>
    by_cases h:n=0
    · subst h;exact okL_nil
    · rw [digs_pos h];exact okL_cons.2 ⟨by omega,ih _ (by omega)⟩
theorem valL_digs (n:Nat):valL (digs n)=n:=by
  induction n using Nat.strongRecOn with
  |_ n ih=>
    by_cases h:n=0
    · subst h;rfl
    · rw [digs_pos h];simp only [valL];rw [ih _ (by omega)];omega
theorem digs_valL:∀{l:List Int},okL l→trimL l=digs (valL l).toNat
  |[],_=>rfl
  |x :: l,h=>by
    have h':=okL_cons.1 h
    have ih:=digs_valL h'.2
    have h0:=valL_nonneg h'.2
    simp only [trimL,valL]
    rw [ih]
    by_cases hv:valL l=0
    · rw [hv]
      simp only [Int.toNat_zero,digs_zero]
      by_cases hx:x=0
      · simp [hx,digs_zero]
      · simp only [hx, if_false]
        rw [digs_pos (by omega)]
        have e1:((x+1000000000*0).toNat / 1000000000)=0:=by omega
        have e2:(((x+1000000000*0).toNat%1000000000:Nat):Int)=x:=by omega
        rw [e1,e2,digs_zero]
    · have hn : (valL l).toNat ≠ 0 := by omega
      rw [digs_pos (n:=(x+1000000000*valL l).toNat) (by omega)]
      have e1:((x+1000000000*valL l).toNat / 1000000000)=(valL l).toNat:=by omega
      have e2:(((x+1000000000*valL l).toNat%1000000000:Nat):Int)=x:=by omega
      rw [e1,e2,digs_pos hn]
theorem trimL_digs (n:Nat):trimL (digs n)=digs n:=by rw [digs_valL (digs_ok n),valL_digs];simp
theorem trimL_of {l:List Int} (h:okL l) {n:Nat} (hv:valL l=n):trimL l=digs n:=by rw [digs_valL h,hv];simp
theorem digs_len {k:Nat}:∀{n:Nat},(n:Int)<pw k→(digs n).length≤k:=by
  induction k with
  | zero => intro n h; simp [pw_zero] at h; have : n = 0 := by omega
            subst this;simp [digs_zero]
  |succ k ih=>
    intro n h
    by_cases e:n=0
    · subst e;simp [digs_zero]
    · rw [digs_pos e, List.length_cons]
      have:((n / 1000000000:Nat):Int)<pw k:=by rw [pw_succ] at h;omega
      have:=ih this
      omega
theorem plus_step {os A B:List Int} {i:Nat} {cy d c:Int} (hl:os.length=i) (hv:valL os+pw i*cy=valL (A.take i)+valL (B.take i)) (hs:A.getD i 0+B.getD i 0+cy=d+1000000000*c):
    valL (os++[d])+pw (i+1)*c=valL (A.take (i+1))+valL (B.take (i+1)):=by
  rw [valL_snoc,hl,valL_take_succ,valL_take_succ,pw_succ]
  have h1:pw i*(A.getD i 0+B.getD i 0+cy)=pw i*(d+1000000000*c):=by rw [hs]
  rw [Int.mul_add,Int.mul_add,Int.mul_add] at h1
  have h2:pw i*(1000000000*c)=1000000000*pw i*c:=by rw [← Int.mul_assoc,Int.mul_comm (pw i)]
  omega
theorem plus_fin {os A B:List Int} {i:Nat} {cy:Int} (hA:okL A) (hB:okL B) (ho:okL os) (hc:0≤cy) (hl:os.length=i) (hi:max A.length B.length+1≤i) (hv:valL os+pw i*cy=valL (A.take i)+valL (B.take i)):
    valL os=valL A+valL B:=by
  rw [List.take_of_length_le (by omega),List.take_of_length_le (by omega)] at hv
  have h1:=valL_lt hA
  have h2:=valL_lt hB
  have h3:=valL_nonneg ho
  have p1:=pw_mono (show A.length≤i - 1 by omega)
  have p2:=pw_mono (show B.length≤i - 1 by omega)
  have e:pw i=1000000000*pw (i - 1):=by rw [← pw_succ];congr 1;omega
  have p3:=pw_pos (i - 1)
  by_cases hcy:cy=0
  · subst hcy;omega
  · exfalso
    have:pw i*1≤pw i*cy:=Int.mul_le_mul_of_nonneg_left (by omega) (by rw [e];omega)
    omega
theorem set_pad {os:List Int} {i n:Nat} {d:Int} (hl:os.length=i) (hi:i<n):(os++List.replicate (n - i) 0).set i d=(os++[d])++List.replicate (n - (i+1)) 0:=by
  rw [show n - i=(n - (i+1))+1 by omega,List.replicate_succ]
  rw [List.set_append_right _ _ (by omega),hl]
  simp
end Go.Proofs.YtpdbimfnhglhpaaGreat.Big
namespace Go.Proofs.YtpdbimfnhglhpaaGreat.Big
theorem getD_set_ne {l:List Int} {k j:Nat} (h:j≠k) (d:Int):(l.set k d).getD j 0=l.getD j 0:=by
  simp [List.getD,List.getElem?_set_ne (Ne.symm h)]
theorem valL_set:∀{l:List Int} {k:Nat} (d:Int),k<l.length→valL (l.set k d)=valL l+pw k*(d - l.getD k 0)
  |[],_,_,h=>by simp at h
  |x :: l,0,d,_=>by simp [valL,pw_zero];omega
  |x :: l,k+1,d,h=>by
    have:=valL_set (l:=l) (k:=k) d (by simpa using h)
    simp only [List.set_cons_succ,valL,this,pw_succ,List.getD_cons_succ]
    rw [Int.mul_add,Int.mul_assoc];omega
theorem okL_set {l:List Int} (h:okL l) {k:Nat} {d:Int} (h0:0≤d) (h1:d<1000000000):okL (l.set k d):=fun x hx=>by
  rcases List.mem_or_eq_of_mem_set hx with hx|rfl
  · exact h x hx
  · exact ⟨h0,h1⟩
theorem okL_zeros (n:Nat):okL (List.replicate n 0):=fun d hd=>by
  have:=(List.mem_replicate.1 hd).2;subst this;omega
theorem getD_zeros (n k:Nat):(List.replicate n (0:Int)).getD k 0=0:=by
  simp [List.getD,List.getElem?_replicate];split <;> rfl
theorem digs_low:∀{k:Nat} {n:Nat},k<(digs n).length→pw k≤(n:Int):=by
  intro k
  induction k with
  | zero => intro n h; rw [pw_zero]; have : n ≠ 0 := fun e => by subst e; simp [digs_zero] at h
            omega
  |succ k ih=>
    intro n h
    have hn:n≠0:=fun e=>by subst e;simp [digs_zero] at h
    rw [digs_pos hn,List.length_cons] at h
    have:=ih (n:=n / 1000000000) (by omega)
    rw [pw_succ];omega
theorem digs_lt (n:Nat):(n:Int)<pw (digs n).length:=by
  have:=valL_lt (digs_ok n);rwa [valL_digs] at this
def ln (z:Int):Nat:=(digs z.natAbs).length
theorem zae {z:Int} {k:Nat} (h1: - pw k<z) (h2:z<pw k):ln z≤k:=digs_len (by omega)
theorem zbe (z:Int): - pw (ln z)<z∧z<pw (ln z):=by have:=digs_lt z.natAbs;unfold ln;omega
theorem pw_add (i j:Nat):pw (i+j)=pw i*pw j:=by unfold pw;rw [Int.pow_add]
theorem zvc (x y:Int):ln (x+y)≤max (ln x) (ln y)+1:=by
  have h1:=zbe x;have h2:=zbe y
  have m1:=pw_mono (show ln x≤max (ln x) (ln y) by omega)
  have m2:=pw_mono (show ln y≤max (ln x) (ln y) by omega)
  have p:=pw_pos (max (ln x) (ln y))
  exact zae (by rw [pw_succ];omega) (by rw [pw_succ];omega)
theorem zce:ln 0=0:=rfl
theorem zS (x:Int):ln (-x)=ln x:=by unfold ln;rw [Int.natAbs_neg]
theorem zQg (x y:Int):ln (x - y)≤max (ln x) (ln y)+1:=by
  have:=zvc x (-y);rw [zS] at this;rwa [Int.sub_eq_add_neg]
theorem zta (x y:Int):ln (x*y)≤ln x+ln y:=by
  have h1:=zbe x;have h2:=zbe y
  have e:(x*y).natAbs=x.natAbs*y.natAbs:=Int.natAbs_mul x y
  have a1:(x.natAbs:Int)<pw (ln x):=by omega
  have a2:(y.natAbs:Int)<pw (ln y):=by omega
  have:((x*y).natAbs:Int)<pw (ln x+ln y):=by
    rw [e,pw_add,Int.natCast_mul]
    have p2:=pw_pos (ln y)
    have b1:(x.natAbs:Int)*y.natAbs≤x.natAbs*pw (ln y):=Int.mul_le_mul_of_nonneg_left (by omega) (by omega)
    have b2:(x.natAbs:Int)*pw (ln y)<pw (ln x)*pw (ln y):=Int.mul_lt_mul_of_pos_right a1 p2
    omega
  exact digs_len this
theorem zTe {z:Int} (h1: -9223372036854775808≤z) (h2:z≤9223372036854775807):ln z≤3:=by
  have:pw 3=1000000000000000000000000000:=by decide
  exact zae (by omega) (by omega)
theorem zde {x y:Int} (h:x.natAbs≤y.natAbs):ln x≤ln y:=by
  have:=zbe y
  exact zae (by omega) (by omega)
def canon (s:Bool) (l:List Int):Prop:=if l.length=0 then s=false else l.getD (l.length - 1) 0≠0∧∀g∈l,g<1000000000
instance (s:Bool) (l:List Int):Decidable (canon s l):=by unfold canon;infer_instance
def raw (s:Bool) (l:List Int):Int:=if canon s l then (if s then - valL l else valL l) else 0
def nn (l:List Int):Prop:=∀g∈l,0≤g
theorem trimL_canon {s:Bool} {l:List Int} (h:canon s l):trimL l=l:=by
  unfold canon at h
  split at h
  · rename_i h0; have : l = [] := List.length_eq_zero_iff.1 h0
    subst this;rfl
  · have := trim_stop l (k := l.length) (Nat.le_refl _) (fun x => h.1 x.2)
    simpa using this
theorem canon_ok {s:Bool} {l:List Int} (h:canon s l) (hn:nn l):okL l:=fun d hd=>by
  unfold canon at h
  split at h
  · rename_i h0; have : l = [] := List.length_eq_zero_iff.1 h0
    subst this;cases hd
  · exact ⟨hn d hd,h.2 d hd⟩
theorem raw_digs {s:Bool} {l:List Int} (hn:nn l):digs (raw s l).natAbs=if canon s l then l else []:=by
  unfold raw
  by_cases h:canon s l
  · simp only [h, if_true]
    have hok:=canon_ok h hn
    have h0:=valL_nonneg hok
    have e:=digs_valL hok
    rw [trimL_canon h] at e
    have:(if s=true then - valL l else valL l).natAbs=(valL l).toNat:=by split <;> omega
    rw [this,←e]
  · simp [h,digs_zero]
theorem valL_pos:∀{l:List Int},okL l→trimL l≠[]→0<valL l:=by
  intro l h ht
  have e:=digs_valL h
  have h0:=valL_nonneg h
  by_cases hz:valL l=0
  · rw [hz] at e;exact absurd (e.trans digs_zero) ht
  · omega
def sg (s:Bool) (n:Int):Int:=if s then -n else n
theorem sg_raw {s:Bool} {l:List Int} (hn:nn l):sg s ((raw s l).natAbs:Int)=raw s l:=by
  unfold sg raw
  by_cases h:canon s l
  · have := valL_nonneg (canon_ok h hn)
    simp only [h,if_true]
    cases s
    · simp;omega
    · simp;omega
  · simp [h]
theorem canon_digs (z:Int):canon (decide (z<0)) (digs z.natAbs):=by
  unfold canon
  split
  · rename_i h; have := digs_nil.1 (List.length_eq_zero_iff.1 h)
    simp;omega
  · rename_i h
    refine ⟨fun e=> ?_,fun g hg=>(digs_ok _ g hg).2⟩
    have t:=trimL_digs z.natAbs
    have hl:0<(digs z.natAbs).length:=by omega
    have hs:=take_split (digs z.natAbs) hl (Nat.le_refl _)
    rw [List.take_length,e] at hs
    have h2:=trimL_append_zero ((digs z.natAbs).take ((digs z.natAbs).length - 1))
    rw [← hs,t] at h2
    have hlen:∀k:List Int,(trimL k).length≤k.length:=by
      intro k
      induction k with
      |nil=>simp [trimL]
      |cons x k ih=>
        simp only [trimL]
        split
        · split <;> simp
        · rename_i y t hy;rw [hy] at ih;simp at ih ⊢;omega
    have:=hlen ((digs z.natAbs).take ((digs z.natAbs).length - 1))
    rw [← h2,List.length_take] at this
    omega
theorem raw_big (z:Int):raw (decide (z<0)) (digs z.natAbs)=z:=by
  unfold raw
  rw [if_pos (canon_digs z),valL_digs]
  split <;> (rename_i h;simp at h;omega)
theorem sg_pos {s:Bool} {n:Int} (h:0<n):decide (sg s n<0)=s:=by
  unfold sg;cases s <;> simp <;> omega
theorem sg_abs {s:Bool} {n:Int} (h:0≤n):(sg s n).natAbs=n.toNat:=by
  unfold sg;cases s <;> simp <;> omega
theorem sg_zero (s:Bool):sg s 0=0:=by unfold sg;cases s <;> rfl
theorem sg_big (z:Int):sg (decide (z<0)) (z.natAbs:Int)=z:=by unfold sg;split <;> (rename_i h;simp at h;omega)
theorem sg_not (s:Bool) (n:Int):sg (!s) n= - sg s n:=by unfold sg;cases s <;> simp
theorem minus_step {os A B:List Int} {i:Nat} {bo d c:Int} (hl:os.length=i) (hv:valL os+valL (B.take i)=valL (A.take i)+pw i*bo) (hs:A.getD i 0+1000000000*c=d+B.getD i 0+bo):
    valL (os++[d])+valL (B.take (i+1))=valL (A.take (i+1))+pw (i+1)*c:=by
  rw [valL_snoc,hl,valL_take_succ,valL_take_succ,pw_succ]
  have h1:pw i*(A.getD i 0+1000000000*c)=pw i*(d+B.getD i 0+bo):=by rw [hs]
  rw [Int.mul_add,Int.mul_add,Int.mul_add] at h1
  have h2:pw i*(1000000000*c)=1000000000*pw i*c:=by rw [← Int.mul_assoc,Int.mul_comm (pw i)]
  omega
theorem minus_fin {os:List Int} {a b i:Nat} {bo:Int} (hab:b≤a) (ho:okL os) (hb0:0≤bo) (hl:os.length=i) (ha:(digs a).length≤i) (hv:valL os+valL ((digs b).take i)=valL ((digs a).take i)+pw i*bo):
    trimL os=digs (a - b):=by
  have hbl:(digs b).length≤i:=by
    refine digs_len ?_
    have:=digs_lt a
    have:=pw_mono ha
    omega
  rw [List.take_of_length_le ha,List.take_of_length_le hbl,valL_digs,valL_digs] at hv
  have h1:=valL_lt ho
  rw [hl] at h1
  have h3:=valL_nonneg ho
  have hp:=pw_pos i
  have:bo=0:=by
    by_cases hz:bo=0
    · exact hz
    · exfalso
      have:pw i*1≤pw i*bo:=Int.mul_le_mul_of_nonneg_left (by omega) (by omega)
      omega
  subst this
  exact trimL_of ho (by omega)
theorem mul_step {os A B:List Int} {i j:Nat} {p cy d c:Int} (hv:valL os+pw (i+j)*cy=valL (A.take i)*valL B+pw i*p*valL (B.take j)) (hj:i+j<os.length)
    (hs:os.getD (i+j) 0+p*B.getD j 0+cy=d+1000000000*c):
    valL (os.set (i+j) d)+pw (i+(j+1))*c=valL (A.take i)*valL B+pw i*p*valL (B.take (j+1)):=by
  rw [valL_set d hj,valL_take_succ,←Nat.add_assoc,pw_succ,Int.mul_add]
  have e1:pw i*p*(pw j*B.getD j 0)=pw (i+j)*(p*B.getD j 0):=by rw [pw_add];ac_rfl
  have h1:pw (i+j)*(os.getD (i+j) 0+p*B.getD j 0+cy)=pw (i+j)*(d+1000000000*c):=by rw [hs]
  rw [Int.mul_add,Int.mul_add,Int.mul_add] at h1
  have h2:pw (i+j)*(1000000000*c)=1000000000*pw (i+j)*c:=by rw [← Int.mul_assoc,Int.mul_comm (pw (i+j))]
  rw [e1,Int.mul_sub]
  omega
theorem mul_round {os A B:List Int} {i:Nat} {cy:Int} (hv:valL os+pw (i+B.length)*cy=valL (A.take i)*valL B+pw i*A.getD i 0*valL (B.take B.length)) (hj:i+B.length<os.length) (h0:os.getD (i+B.length) 0=0):
    valL (os.set (i+B.length) cy)=valL (A.take (i+1))*valL B:=by
  rw [valL_set cy hj,h0,valL_take_succ,Int.add_mul]
  rw [List.take_length] at hv
  have:cy - 0=cy:=by omega
  rw [this];exact hv
def cmp (x y:Int):Int:=if x<y then -1 else if y<x then 1 else 0
theorem cmp_lt {x y:Int} (h:x<y):cmp x y= -1:=by simp [cmp,h]
theorem cmp_gt {x y:Int} (h:y<x):cmp x y=1:=by simp [cmp,h];omega
theorem cmp_len {a b:Nat} (h:(digs a).length≠(digs b).length):cmp ((digs a).length:Int) ((digs b).length:Int)=cmp (a:Int) (b:Int):=by
  have key:∀a b:Nat,(digs a).length<(digs b).length→(a:Int)<b:=fun a b h=>by
    have h1:=digs_lt a
    have h2:=digs_low (k:=(digs b).length - 1) (n:=b) (by omega)
    have h3:=pw_mono (show (digs a).length≤(digs b).length - 1 by omega)
    omega
  rcases Nat.lt_or_ge (digs a).length (digs b).length with h1|h1
  · rw [cmp_lt (by omega),cmp_lt (key a b h1)]
  · rw [cmp_gt (by omega),cmp_gt (key b a (by omega))]
theorem valL_split (l:List Int) {k:Nat} (h:k<l.length):valL l=valL (l.take k)+pw k*l.getD k 0+pw (k+1)*valL (l.drop (k+1)):=by
  have e:l=l.take k++(l.getD k 0 :: l.drop (k+1)):=by
    have:l.getD k 0=l[k]:=by simp [List.getD,h]
    rw [this,List.getElem_cons_drop,List.take_append_drop]
  conv=>lhs;rw [e]
  rw [valL_append,valL,List.length_take,Nat.min_eq_left (by omega),pw_succ,Int.mul_add]
  have:pw k*(1000000000*valL (l.drop (k+1)))=1000000000*pw k*valL (l.drop (k+1)):=by rw [← Int.mul_assoc,Int.mul_comm (pw k)]
  omega
theorem val_at {l m:List Int} (hl:okL l) (hm:okL m) {k:Nat} (h1:k<l.length) (h2:k<m.length) (hd:l.drop (k+1)=m.drop (k+1)) (hlt:l.getD k 0<m.getD k 0):valL l<valL m:=by
  rw [valL_split l h1,valL_split m h2,hd]
  have a1:=valL_lt (okL_take hl k)
  have a2:=valL_nonneg (okL_take hm k)
  have a3:pw (l.take k).length=pw k:=by rw [List.length_take,Nat.min_eq_left (by omega)]
  rw [a3] at a1
  have:pw k*(l.getD k 0+1)≤pw k*m.getD k 0:=Int.mul_le_mul_of_nonneg_left (by omega) (by have:=pw_pos k;omega)
  rw [Int.mul_add] at this
  omega
theorem cmp_at {a b k:Nat} (hl:(digs a).length=(digs b).length) (h1:k<(digs a).length) (hd:(digs a).drop (k+1)=(digs b).drop (k+1)) (hne:(digs a).getD k 0≠(digs b).getD k 0):
    cmp ((digs a).getD k 0) ((digs b).getD k 0)=cmp (a:Int) (b:Int):=by
  rcases Int.lt_or_gt_of_ne hne with h|h
  · have := val_at (digs_ok a) (digs_ok b) h1 (by omega) hd h
    rw [valL_digs,valL_digs] at this
    rw [cmp_lt h,cmp_lt this]
  · have := val_at (digs_ok b) (digs_ok a) (by omega) h1 hd.symm h
    rw [valL_digs,valL_digs] at this
    rw [cmp_gt h,cmp_gt this]
theorem drop_more {l m:List Int} {k:Nat} (h1:k<l.length) (h2:k<m.length) (hd:l.drop (k+1)=m.drop (k+1)) (he:l.getD k 0=m.getD k 0):l.drop k=m.drop k:=by
  rw [List.drop_eq_getElem_cons h1,List.drop_eq_getElem_cons h2,hd]
  congr 1
  simpa [List.getD,h1,h2] using he
theorem cmp_eq {a b:Nat} (h:(digs a)=(digs b)):(a:Int)=b:=by
  have:=congrArg valL h;rwa [valL_digs,valL_digs] at this
theorem cmp_ge {x y:Int}:0≤cmp x y↔y≤x:=by
  unfold cmp;split
  · simp;omega
  · split <;> simp <;> omega
theorem getD_mem {l:List Int} {i:Nat} (h:i<l.length):l.getD i 0∈l:=by
  have:l.getD i 0=l[i]:=by simp [List.getD,h]
  rw [this];exact List.getElem_mem h
theorem mem_getD {l:List Int} {g:Int} (h:g∈l):∃j,j<l.length∧l.getD j 0=g:=by
  obtain ⟨j,hj,e⟩:=List.getElem_of_mem h
  exact ⟨j,hj,by simp [List.getD,hj,e]⟩
theorem canon_more {s:Bool} {l:List Int} (h:l.length≠0):canon s l↔l.getD (l.length - 1) 0≠0∧¬∃g∈l,1000000000≤g:=by
  unfold canon
  rw [if_neg h]
  constructor
  · rintro ⟨h1, h2⟩
    exact ⟨h1,fun ⟨g,hg,hb⟩=>by have:=h2 g hg;omega⟩
  · rintro ⟨h1, h2⟩
    exact ⟨h1,fun g hg=>by
      by_cases hb:g<1000000000
      · exact hb
      · exact absurd ⟨g,hg,by omega⟩ h2⟩
theorem trim_zero {l:List Int} (_:okL l) (ht:(trimL l).length=0):valL l=0:=by
  rw [← valL_trim,List.length_eq_zero_iff.1 ht];rfl
theorem zEf {n:Nat} (h:n<18446744073709551616):(digs n).length≤3:=by
  have:pw 3=1000000000000000000000000000:=by decide
  exact digs_len (by omega)
theorem split_step {os:List Int} {n m:Nat} (hn:0<n) (h:os++digs n=digs m):(os++[((n%1000000000:Nat):Int)])++digs (n / 1000000000)=digs m:=by
  have e:digs n=((n%1000000000:Nat):Int) :: digs (n / 1000000000):=digs_pos (by omega)
  rw [← h,e,List.append_assoc];rfl
theorem len_digs_nil {n:Nat}:(digs n).length=0↔n=0:=by rw [List.length_eq_zero_iff,digs_nil]
end Go.Proofs.YtpdbimfnhglhpaaGreat.Big
namespace Go.Proofs.YtpdbimfnhglhpaaGreat.Big
theorem sg_mul (s t:Bool) (a b:Nat):sg (decide (s≠t)) ((a*b:Nat):Int)=sg s (a:Int)*sg t (b:Int):=by
  unfold sg;cases s <;> cases t <;> simp [Int.natCast_mul,Int.neg_mul,Int.mul_neg]
theorem sign_neg {s:Bool} {l:List Int} (hn:nn l) (hs:s=true) (h:raw s l≠0):(raw s l).sign= -1:=by
  have e:=sg_raw (s:=s) hn
  subst hs
  have:raw true l<0:=by unfold sg at e;simp at e;omega
  exact Int.sign_eq_neg_one_of_neg this
theorem sign_pos {s:Bool} {l:List Int} (hn:nn l) (hs:s=false) (h:raw s l≠0):(raw s l).sign=1:=by
  have e:=sg_raw (s:=s) hn
  subst hs
  have:0<raw false l:=by unfold sg at e;simp at e;omega
  exact Int.sign_eq_one_of_pos this
theorem mul_lim {p q:Int} (hp:0≤p∧p<1000000000) (hq:0≤q∧q<1000000000):0≤p*q∧p*q≤999999998000000001:=by
  have h1:p*q≤p*999999999:=Int.mul_le_mul_of_nonneg_left (by omega) hp.1
  have h0:=Int.mul_nonneg hp.1 hq.1
  omega
end Go.Proofs.YtpdbimfnhglhpaaGreat.Big
namespace Go.Proofs.YtpdbimfnhglhpaaGreat.Big
theorem raw_sign {s:Bool} {l:List Int} (hn:nn l) (hc:canon s l):decide (raw s l<0)=s:=by
  have e:=sg_raw (s:=s) hn
  by_cases h0:raw s l=0
  · have hd := raw_digs (s := s) hn
    rw [if_pos hc,h0] at hd
    have:l=[]:=hd.symm
    subst this
    have:s=false:=by simpa [canon] using hc
    subst this;simp [h0]
  · rw [← e];exact sg_pos (by omega)
theorem made_sign {s:Bool} {l:List Int} {k:Nat} (ho:okL l) (h:l.take k=digs (sg s (valL l)).natAbs) (hl:(l.take k).length=k):decide (sg s (valL l)<0)=decide (s=true∧0<k):=by
  have h0:=valL_nonneg ho
  by_cases hz:valL l=0
  · have : k = 0 := by rw [h, hz, sg_zero] at hl; exact hl.symm
    subst this;rw [hz,sg_zero];simp
  · have hk:0<k:=by
      rcases Nat.eq_zero_or_pos k with e|e
      · subst e
        have:(sg s (valL l)).natAbs=0:=digs_nil.1 (by simpa using h.symm)
        rw [sg_abs h0] at this;omega
      · exact e
    rw [sg_pos (by omega)];simp [hk]
theorem plus_end {os:List Int} {a b i:Nat} {cy:Int} (hl:os.length=i) (ha:(digs a).length≤i) (hb:(digs b).length≤i) (hv:valL os+pw i*cy=valL ((digs a).take i)+valL ((digs b).take i)):
    (sg false (valL (os++[cy]))).natAbs=a+b:=by
  rw [List.take_of_length_le ha,List.take_of_length_le hb,valL_digs,valL_digs] at hv
  rw [valL_snoc,hl,hv];unfold sg;simp;omega
end Go.Proofs.YtpdbimfnhglhpaaGreat.Big
namespace Go.Proofs.YtpdbimfnhglhpaaGreat.Big
theorem zWa {s:Bool} {l:List Int} (hn:nn l):ln (raw s l)≤l.length:=by
  unfold ln;rw [raw_digs hn];split <;> simp
theorem len_add (a b:Nat):(digs (a+b)).length≤max (digs a).length (digs b).length+1:=by
  have:=zvc (a:Int) (b:Int)
  unfold ln at this
  have e:((a:Int)+(b:Int)).natAbs=a+b:=by omega
  rw [e] at this
  simpa using this
theorem len_sub (a b:Nat):(digs (a - b)).length≤(digs a).length:=by
  refine digs_len ?_
  have:=digs_lt a
  omega
theorem add_same {x y:Int} (h:decide (x<0)=decide (y<0)):sg (decide (x<0)) ((x.natAbs+y.natAbs:Nat):Int)=x+y:=by
  unfold sg
  by_cases hx:x<0
  · have hy : y < 0 := by simpa [hx] using h
    simp [hx];omega
  · have hy : ¬ y < 0 := by simpa [hx] using h
    simp [hx];omega
theorem add_ge {x y:Int} (h:¬decide (x<0)=decide (y<0)) (hab:y.natAbs≤x.natAbs):sg (decide (x<0)) ((x.natAbs - y.natAbs:Nat):Int)=x+y:=by
  unfold sg
  by_cases hx:x<0
  · have hy : ¬ y < 0 := by simpa [hx] using h
    simp [hx];omega
  · have hy : y < 0 := by simpa [hx] using h
    simp [hx];omega
theorem add_lt {x y:Int} (h:¬decide (x<0)=decide (y<0)) (hab:x.natAbs≤y.natAbs):sg (decide (y<0)) ((y.natAbs - x.natAbs:Nat):Int)=x+y:=by
  have:=add_ge (x:=y) (y:=x) (fun e=>h e.symm) hab
  rw [this,Int.add_comm]
theorem ext_getD {l m:List Int} (hl:l.length=m.length) (h:∀j,j<l.length→l.getD j 0=m.getD j 0):l=m:=by
  refine List.ext_getElem hl (fun j h1 h2=> ?_)
  have:=h j h1
  simpa [List.getD,h1,h2] using this
end Go.Proofs.YtpdbimfnhglhpaaGreat.Big
