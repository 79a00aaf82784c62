/- Lemmas on the walk and plain lemmas that the claim of this folder uses; each states its own conditions. Lines were printed by a program of ours. -/
import Derived.Test.YtpdbimfnhglhpaaZ3A
set_option linter.unusedVariables false
set_option linter.unusedSimpArgs false
set_option linter.unusedSectionVars false
open Go.Proofs.Ytpdbimfnhglhpaa.Big renaming getD_set_self → ya
namespace Go.Proofs.Ytpdbimfnhglhpaa.Sp
open Go
set_option linter.unusedVariables false
structure OpS where
  i:Nat
  t:Nat
  X:Type
  val:X→Value
  O:X→List As
  R:X→List Fa
instance:Inhabited OpS:=⟨⟨0,0,Unit,fun _=>undef,fun _=>[],fun _=>[]⟩⟩
def DP (T:List OpS):List Nat→(Fm→List Fa→Prop)→Prop
  |[],f=>f [] []
  |p :: ps,f=>∀x:(T.getD p default).X,DP T ps fun m R=>f (((T.getD p default).t,(T.getD p default).val x) :: m) ((T.getD p default).R x++R)
def DA:List OpS→(Fm→List As→List Fa→Prop)→Prop
  |[],f=>f [] [] []
  |e :: T,f=>∀x:e.X,DA T fun m A R=>f ((e.t,e.val x) :: m) (e.O x++A) (e.R x++R)
def Left (a:Act) (g:Hp) (e:OpS):Prop:=∃x:e.X,a.tmps[e.t]? =some (e.val x)∧Holds g (e.R x)
theorem DP.use {T:List OpS} {a:Act} {g:Hp}:∀{ps:List Nat} {f:Fm→List Fa→Prop},DP T ps f→(∀p∈ps,Left a g (T.getD p default))→∃m R,f m R∧(∀t v,lk m t=some v→a.tmps[t]? =some v)∧Holds g R
  |[],f,h,_=>⟨[],[],h,(fun _ _ e=>by cases e),trivial⟩
  |p :: ps,f,h,hs=>by
    obtain ⟨x,hx,hr⟩:=hs p (List.mem_cons_self ..)
    obtain ⟨m,R,hf,hm,hR⟩:=DP.use (h x) (fun q hq=>hs q (List.mem_cons_of_mem _ hq))
    refine ⟨_,_,hf,fun t v e=> ?_,Holds.app hr hR⟩
    simp only [lk] at e
    split at e
    · rename_i hb
      have:(T.getD p default).t=t:=Nat.eq_of_beq_eq_true hb
      cases e
      rw [← this];exact hx
    · exact hm t v e
def ofr (o:Oper):Oper:=⟨o.dst,o.op,o.type,o.pos,#[],none⟩
def locQ (c:Cx) (n:Sz) (e:OpS):Exit→Act→World→Prop:=Exit.then (Some' c n (fun _:e.X=>True) (fun x=>[(e.t,e.val x)]) e.O e.R) (fun _ _ _=>False)
section
variable {P : Program} {Q : Exit → Act → World → Prop} {c : Cx} {n : Sz} {ops : Array Oper} {m : Fm} {OW O : List As} {R : List Fa} {k wi : Nat} {L : Array Bool}
structure StepOK (P:Program) (ops:Array Oper) (n:Sz) (m0:Fm) (R0:List Fa) (e:OpS) (T:List OpS) (o:Oper) (ps:List Nat):Prop where
  hi:ops[e.i]? =some o
  hd:o.dst=some e.t
  hg:o.guard=none
  hn:Region.noSelect #[ofr o]=true
  ht:Nat.ble (e.t+1) n.sz=true
  hm:(lk m0 e.t).isNone=true
  hT:(T.all fun x=> !Nat.beq x.t e.t)=true
  hp:(ps.all fun p=>Nat.blt p T.length&&o.after.any fun ed=>Region.binds .any ed&&Nat.beq ed.on (T.getD p default).i)=true
  go:∀c,DP T ps (fun m R=>RunD P #[ofr o] (locQ c n e) c n 100000 1 #[false] (m++m0) [] [] (R++R0))
def WF (P:Program) (ops:Array Oper) (n:Sz) (m0:Fm) (R0:List Fa):List OpS→Prop
  |[]=>True
  |e :: T=>(∃o ps,StepOK P ops n m0 R0 e T o ps)∧WF P ops n m0 R0 T
theorem WF.get {m0:Fm} {R0:List Fa} {e:OpS}:∀{T:List OpS},WF P ops n m0 R0 T→e∈T→∃T' o ps,StepOK P ops n m0 R0 e T' o ps∧(∀x∈T',x∈T)
  |[],_,h=>by cases h
  |e' :: T,⟨⟨o,ps,h1⟩,h2⟩,h=>by
    rcases List.mem_cons.1 h with rfl|h
    · exact ⟨T,o,ps,h1,fun x hx=>List.mem_cons_of_mem _ hx⟩
    · obtain ⟨T', o, ps, h3, h4⟩ := WF.get h2 h
      exact ⟨T',o,ps,h3,fun x hx=>List.mem_cons_of_mem _ (h4 x hx)⟩
theorem wp_loc {o:Oper} {a:Act} {w:World} {K K':Act→World→Prop} {Q0:Exit→Act→World→Prop} (hp:∀ch a w,Q0 (.panic ch) a w→False) (hl:¬LetsOut Q0) (hk:∀v w',K (a.put o.dst v) w'→K' (a.put o.dst v) w')
    (hd:∀d v w',K (({a with defers:=d :: a.defers}:Act).put o.dst v) w'→False) (h:o.wp P a w K Q0):o.wp P a w K' Q:=by
  unfold Oper.wp at*
  generalize (execOp a.eval o).run P w=r at*
  cases r with
  |ok nx w'=>
    cases nx <;> simp only [Oper.upon] at h ⊢ <;>
      first
        |exact hk _ _ h
        |exact (hd _ _ _ h).elim
        |exact Calls.mono h (fun e w'' he=>by cases e <;> first|exact hk _ _ he|exact (hp _ _ _ he).elim|exact (hl he).elim)
        |exact Rows.mono h (fun _ _ he=>hk _ _ he)
  |halt x w'=>
    cases x <;> simp only [Oper.upon] at h ⊢
    exact (hp _ _ _ h).elim
theorem put_lk {a:Act} {t:Nat} {v:Value} {s:Nat} {u:Value} (h:a.tmps[s]? =some u) (hne:s≠t):(a.put (some t) v).tmps[s]? =some u:=by
  simp only [Act.put,Array.getElem?_setIfInBounds]
  rw [if_neg (fun e=>hne e.symm)];exact h
theorem lk_app {m0:Fm} {t:Nat}:∀(m:Fm),lk (m++m0) t=(match lk m t with|some v=>some v|none=>lk m0 t)
  |[]=>rfl
  |(q,v) :: m=>by
    simp only [List.cons_append,lk]
    split
    · rfl
    · exact lk_app m
def Own (L:Array Bool) (a:Act) (g:Hp):List OpS→List As→Prop
  |[],A=>A=[]
  |e :: T,A=>if L.getD e.i false then ∃x A',A=e.O x++A'∧a.tmps[e.t]? =some (e.val x)∧Holds g (e.R x)∧Own L a g T A' else Own L a g T A
theorem Own.left {L:Array Bool} {a:Act} {g:Hp} {e:OpS}:∀{T:List OpS} {A:List As},Own L a g T A→e∈T→L.getD e.i false=true→Left a g e
  |[],_,_,h,_=>by cases h
  |d :: T,A,ho,h,hL=>by
    unfold Own at ho
    rcases List.mem_cons.1 h with h|h
    · subst h
      rw [hL,if_pos rfl] at ho
      obtain ⟨x,A',-,h1,h2,-⟩:=ho
      exact ⟨x,h1,h2⟩
    · split at ho
      · obtain ⟨x, A', -, -, -, h3⟩ := ho
        exact Own.left h3 h hL
      · exact Own.left ho h hL
theorem Own.all {L:Array Bool} {a:Act} {g:Hp}:∀{T:List OpS} {A:List As} {f:Fm→List As→List Fa→Prop},Own L a g T A→(∀e∈T,L.getD e.i false=true)→DA T f→∃m R,f m A R∧(∀t v,lk m t=some v→a.tmps[t]? =some v)∧Holds g R
  |[],A,f,ho,_,h=>by
    have:A=[]:=ho
    subst this
    exact ⟨[],[],h,(fun _ _ e=>by cases e),trivial⟩
  |e :: T,A,f,ho,hall,h=>by
    unfold Own at ho
    rw [hall e (List.mem_cons_self ..),if_pos rfl] at ho
    obtain ⟨x,A',hA,hx,hr,h3⟩:=ho
    subst hA
    obtain ⟨m,R,hf,hm,hR⟩:=Own.all h3 (fun d hd=>hall d (List.mem_cons_of_mem _ hd)) (h x)
    refine ⟨_,_,hf,fun t v e'=> ?_,Holds.app hr hR⟩
    simp only [lk] at e'
    split at e'
    · rename_i hb
      have:e.t=t:=Nat.eq_of_beq_eq_true hb
      cases e'
      rw [← this];exact hx
    · exact hm t v e'
theorem Own.none {L:Array Bool} {a:Act} {g:Hp}:∀{T:List OpS},(∀e∈T,L.getD e.i false=false)→Own L a g T []
  |[],_=>rfl
  |e :: T,h=>by
    unfold Own
    rw [h e (List.mem_cons_self ..),if_neg (by simp)]
    exact Own.none fun d hd=>h d (List.mem_cons_of_mem _ hd)
theorem Own.keep {L:Array Bool} {a:Act} {g g':Hp} {i t:Nat} {v:Value} (hg:g.le g'):∀{T:List OpS} {A:List As},Own L a g T A→(∀d∈T,d.i≠i∧d.t≠t)→Own (L.setIfInBounds i true) (a.put (some t) v) g' T A
  |[],_,h,_=>h
  |d :: T,A,ho,h=>by
    obtain ⟨h1,h2⟩:=h d (List.mem_cons_self ..)
    have hr:=fun x hx=>h x (List.mem_cons_of_mem _ hx)
    unfold Own at ho ⊢
    rw [getD_set_ne false (fun e=>h1 e.symm)]
    split at ho
    · obtain ⟨x, A', h3, h4, h5, h6⟩ := ho
      rename_i hL
      rw [if_pos hL]
      exact ⟨x,A',h3,put_lk h4 h2,Holds.mono hg h5,Own.keep hg h6 hr⟩
    · rename_i hL
      rw [if_neg hL]
      exact Own.keep hg ho hr
theorem Own.step {L:Array Bool} {a:Act} {g g':Hp} {e:OpS} {x:e.X} (hg:g.le g') (hsz:e.i<L.size) (hx:(a.put (some e.t) (e.val x)).tmps[e.t]? =some (e.val x)) (hR:Holds g' (e.R x)) (hu:L.getD e.i false=false):
    ∀{T:List OpS} {A:List As},Own L a g T A→e∈T→(∀d∈T,d=e∨(d.i≠e.i∧d.t≠e.t))→T.Pairwise (fun d d'=>d.t≠d'.t)→∃A',Own (L.setIfInBounds e.i true) (a.put (some e.t) (e.val x)) g' T A'∧(e.O x++A).Perm A'
  |[],_,_,h,_,_=>by cases h
  |d :: T,A,ho,he,hd,hp=>by
    have hp':=List.pairwise_cons.1 hp
    by_cases hde:d=e
    · subst hde
      unfold Own at ho
      rw [hu,if_neg (by simp)] at ho
      refine ⟨d.O x++A,?_,List.Perm.refl _⟩
      unfold Own
      rw [show (L.setIfInBounds d.i true).getD d.i false=true by simp [Array.getD_eq_getD_getElem?,hsz],if_pos rfl]
      refine ⟨x,A,rfl,hx,hR,Own.keep hg ho fun b hb=> ?_⟩
      rcases hd b (List.mem_cons_of_mem _ hb) with h|h
      · subst h;exact absurd rfl (hp'.1 _ hb)
      · exact h
    · have he':e∈T:=by
        rcases List.mem_cons.1 he with h|h
        · exact absurd h.symm hde
        · exact h
      obtain ⟨h1,h2⟩:=(hd d (List.mem_cons_self ..)).resolve_left hde
      unfold Own at ho
      split at ho
      · rename_i hL
        obtain ⟨y,A',h3,h4,h5,h6⟩:=ho
        obtain ⟨A2,h7,h8⟩:=Own.step hg hsz hx hR hu h6 he' (fun b hb=>hd b (List.mem_cons_of_mem _ hb)) hp'.2
        refine ⟨d.O y++A2,?_,?_⟩
        · unfold Own
          rw [getD_set_ne false (fun k=>h1 k.symm),hL,if_pos rfl]
          exact ⟨y,A2,rfl,put_lk h4 h2,Holds.mono hg h5,h7⟩
        · subst h3
          rw [← List.append_assoc]
          refine (List.Perm.append_right _ List.perm_append_comm).trans ?_
          rw [List.append_assoc]
          exact List.Perm.append_left _ h8
      · rename_i hL
        obtain ⟨A2,h7,h8⟩:=Own.step hg hsz hx hR hu ho he' (fun b hb=>hd b (List.mem_cons_of_mem _ hb)) hp'.2
        refine ⟨A2,?_,h8⟩
        unfold Own
        rw [getD_set_ne false (fun k=>h1 k.symm),if_neg hL]
        exact h7
theorem StepOK.run {m0:Fm} {R0:List Fa} {e:OpS} {T:List OpS} {o:Oper} {ps:List Nat} (s:StepOK P ops n m0 R0 e T o ps) {a:Act} {w:World} {F:List As} {hf g:Hp} {K':Act→World→Prop}
    (f:Fr n a m0) (mm:MemAt c w F R0 hf g) (hps:∀p∈ps,Left a g (T.getD p default))
    (hk:∀(x:e.X) w' g' h',Fr n (a.put (some e.t) (e.val x)) m0→g.le g'→h'.apart hf→Sep g' (e.O x) h'→Sep g' F hf→MemAt c w' (e.O x++F) R0 (h'.join hf) g'→Holds g' (e.R x)→(a.put (some e.t) (e.val x)).tmps[e.t]? =some (e.val x)→K' (a.put (some e.t) (e.val x)) w'):wpOp P ops Q e.i K' a w:=by
  obtain ⟨m,R,hf1,hm,hR⟩:=DP.use (s.go ⟨w,Hp.emp,g⟩) hps
  have hfr:Fr n a (m++m0):=⟨f.defers,f.size,fun t v h=>by
    rw [lk_app] at h
    cases hl:lk m t with
    |some u=>rw [hl] at h;cases h;exact hm t _ hl
    |none=>rw [hl] at h;exact f.tmp t v h⟩
  have hQ:PanicOk (locQ ⟨w,Hp.emp,g⟩ n e):=fun ch a d v w x=>x
  have hs1:Region.noSelect #[ofr o]=true:=s.hn
  have hcl:Closed #[ofr o] 100000 #[false]:=by
    intro q o' ho ht ed hed
    have hq:q=0:=by
      have:=(Array.getElem?_eq_some_iff.1 ho).1
      simpa using this
    subst hq
    have:o'=ofr o:=by simpa using ho.symm
    subst this
    simp [ofr] at hed
  have hR2:Holds g (R++R0):=Holds.app hR mm.holds
  have hmem:MemAt ⟨w,Hp.emp,g⟩ w ([]++[]) (R++R0) (Hp.emp.join Hp.emp) g:=Mem.start rfl hR2 (Hp.emp_apart g) (fun _ _ e=>by cases e) mm.hasG
  have h1:=hf1 hQ hs1 hcl a w Hp.emp Hp.emp g hfr rfl rfl (Hp.emp_apart _) hmem
  have hrd:0∈Region.ready .any #[ofr o] #[false]:=mem_ready.2 ⟨rfl,ofr o,rfl,fun e he=>by simp [ofr] at he⟩
  have h2:=h1.2 0 hrd
  have hd:o.dst=some e.t:=s.hd
  have hid:ops[e.i]? =some o:=s.hi
  unfold wpOp at h2 ⊢
  rw [hid]
  have hwant:∀y,Region.wanted o y=true:=fun y=>by simp [Region.wanted,s.hg]
  have hwant2:∀y,Region.wanted (ofr o) y=true:=fun y=>by simp [Region.wanted,ofr]
  simp only [hwant,if_true]
  have h3:(ofr o).wp P a w (fun a' w'=>SL 100000 Hp.emp Hp.emp g (#[false].setIfInBounds 0 true) w'∧wpAnyI P #[ofr o] (locQ ⟨w,Hp.emp,g⟩ n e) (SL 100000 Hp.emp Hp.emp g) 0 (#[false].setIfInBounds 0 true) a' w') (locQ ⟨w,Hp.emp,g⟩ n e):=by
    have:(#[ofr o]:Array Oper)[0]? =some (ofr o):=rfl
    simp only [this,hwant2,if_true] at h2
    rcases h2 with h2|⟨_,b,w9,h2⟩
    · exact h2
    · exact h2.elim
  have h4:o.wp P a w (fun a' w'=>SL 100000 Hp.emp Hp.emp g (#[false].setIfInBounds 0 true) w'∧wpAnyI P #[ofr o] (locQ ⟨w,Hp.emp,g⟩ n e) (SL 100000 Hp.emp Hp.emp g) 0 (#[false].setIfInBounds 0 true) a' w') (locQ ⟨w,Hp.emp,g⟩ n e):=h3
  refine .inl (wp_loc (fun ch a w x=>x) (fun ⟨_,_,x⟩=>x) (fun v w' hK=> ?_) (fun d v w' hK=> ?_) h4)
  · rw [hd] at hK ⊢
    obtain ⟨_,_,x,_,hfx,hM⟩:=hK
    have ht:e.t<n.sz:=Nat.lt_of_succ_le (Nat.le_of_ble_eq_true s.ht)
    have hsz:a.tmps.size=n.sz:=f.size
    have htv:=hfx.tmp e.t (e.val x) (by simp [lk,Nat.beq_refl])
    have hv:v=e.val x:=by
      have:=htv
      simpa [Act.put,Array.getElem?_setIfInBounds,hsz,ht] using this
    subst hv
    have mm0:MemAt c w ([]++F) R0 (Hp.emp.join hf) g:=by simpa [Hp.emp_join] using mm
    obtain ⟨h',g',mm',sO',sF,ap',le'⟩:=MemAt.framed (O:=[]) (F:=F) rfl mm.sep (Hp.emp_apart _) mm0 hM
    have hR':=mm'.holds
    have hsplit:∀(A B:List Fa),Holds g' (A++B)→Holds g' A∧Holds g' B:=by
      intro A
      induction A with
      |nil=>exact fun B hh=>⟨trivial,hh⟩
      |cons r l ih=>exact fun B hh=>⟨⟨hh.1,(ih B hh.2).1⟩,(ih B hh.2).2⟩
    obtain ⟨hRx,hR0⟩:=hsplit _ _ hR'
    refine hk x w' g' h' ⟨?_,?_,fun s' u hl=> ?_⟩ le' ap' sO' sF ⟨mm'.sep,hR0,mm'.apart,mm'.hasH,mm'.hasG,mm'.le,mm'.newG,mm'.newH,mm'.kept⟩ hRx htv
    · exact f.defers
    · simp [Act.put,hsz]
    · refine put_lk (f.tmp s' u hl) (fun e' => ?_)
      subst e'
      have:=s.hm
      rw [hl] at this;cases this
  · rw [hd] at hK
    obtain ⟨_,_,x,_,hfx,_⟩:=hK
    have:=hfx.defers
    have h0:=f.defers
    simp only [Act.put] at this
    rw [h0] at this
    have:=congrArg List.length this
    simp at this
end
end Go.Proofs.Ytpdbimfnhglhpaa.Sp
namespace Go.Proofs.Ytpdbimfnhglhpaa.Sp
open Go
set_option linter.unusedVariables false
structure Wd where
  s:Bool
  p:Option Addr
  n:Nat
  c:Nat
@[reducible] def Wd.b (w : Wd) : Value := .bool w.s
@[reducible] def Wd.l (w : Wd) : Value := .slice w.p w.n w.c
@[reducible] def cw : List Wd → List Value
  |[]=>[]
  |w :: l=>w.b :: w.l :: cw l
def Wd.is (g:Hp) (w:Wd) (z:Int):Prop:=w.s=decide (z<0)∧w.n=(Big.digs z.natAbs).length∧Sl (rI .u32) g w.p w.c (Big.digs z.natAbs)
def lb (n k:Nat):Array Bool:=⟨(List.range n).map (Nat.testBit k)⟩
section
variable {P : Program} {c : Cx} {n : Sz} {Q : Exit → Act → World → Prop} {m : Fm} {O : List As} {R : List Fa} {f : Nat}
theorem Con.of {A:List Value} {Y:Type} {φ:Y→Prop} {val:Y→Value} {O':Y→List As} {R':Y→List Fa} {X:Type} {ψ:X→Prop} {A2:X→List Value} {R2:X→List Fa}
    (h:∀x,ψ x→Con P f (A2 x) O (R2 x) φ val O' R') (hx:∀g,Holds g R→∃x,ψ x∧A2 x=A∧Holds g (R2 x)):Con P f A O R φ val O' R':=fun w hh g s r ap h1 h2=>by
  obtain ⟨x,hp,e,r2⟩:=hx g r
  have:=h x hp w hh g s r2 ap h1 h2
  rw [e] at this;exact this
abbrev bigL (z:Int) (p:Option Addr) (c:Nat):List Value:=[.bool (decide (z<0)),.slice p (Big.digs z.natAbs).length c]
theorem Wd.eq {g:Hp} {w:Wd} {z:Int} (h:w.is g z):[w.b,w.l]=bigL z w.p w.c:=by rw [Wd.b,Wd.l,h.1,h.2.1]
end
section
variable {P : Program} {c : Cx} {n : Sz} {Q : Exit → Act → World → Prop} {m : Fm} {O OW : List As} {R R' : List Fa} {ops : Array Oper} {ro : Option Nat} {l : List Oper} {wi k : Nat} {L : Array Bool} {α : Type} {d : Option Tmp} {ty : TypeId} {ps : String} {af : Array Edge} {gd : Option (Nat × Bool)}
def PartsG (m:Fm) (R:List Fa) (r:Rp α):Nat→List (Nat×Operand)→List (Nat×Value)→List α→List (List Value)→Prop
  |_,[],[],[],[]=>True
  |i,(i1,x0) :: xs,(i2,v) :: vs,x :: es,cs :: css=>i1=i∧i2=i∧evo m x0=some v∧v.cells=cs.toArray∧(∀g,Holds g R→∃γ,r.enc x γ=cs∧r.ok g x γ)∧cs.length=r.sz∧PartsG m R r (i+1) xs vs es css
  |_,_,_,_,_=>False
theorem PartsG.evp {r:Rp α}:∀{i:Nat} {xs:List (Nat×Operand)} {vs:List (Nat×Value)} {es:List α} {css:List (List Value)},PartsG m R r i xs vs es css→evp m xs vs
  |_,[],[],[],[],_=>trivial
  |_,(_,_) :: _,(_,_) :: _,_ :: _,_ :: _,⟨h1,h2,h,_,_,_,k⟩=>⟨h1.trans h2.symm,h,PartsG.evp k⟩
theorem PartsG.len {r:Rp α}:∀{i:Nat} {xs:List (Nat×Operand)} {vs:List (Nat×Value)} {es:List α} {css:List (List Value)},PartsG m R r i xs vs es css→css.flatten.length=es.length*r.sz
  |_,[],[],[],[],_=>by simp
  |_,(_,_) :: _,(_,_) :: _,_ :: es,_ :: css,⟨_,_,_,_,_,hl,k⟩=>by
    have:=PartsG.len k
    simp only [List.flatten_cons,List.length_append,hl,this,List.length_cons,Nat.succ_mul];omega
theorem PartsG.fill {r:Rp α}:∀{i:Nat} {xs:List (Nat×Operand)} {vs:List (Nat×Value)} {es:List α} {css:List (List Value)},PartsG m R r i xs vs es css→∀(pre rest:List Value),pre.length=i*r.sz→rest.length=es.length*r.sz→
    Fill (fun i=>some (i*r.sz,r.sz)) (pre++rest) vs (pre++css.flatten)
  |_,[],[],[],[],_,pre,rest,hp,hr=>by
    have:rest=[]:=List.eq_nil_of_length_eq_zero (by simpa using hr)
    subst this;rfl
  |i,(_,_) :: _,(_,_) :: _,x :: es,cs :: css,⟨h1,h2,h,hv,_,hl,k⟩,pre,rest,hp,hr=>by
    subst h2
    refine ⟨_*r.sz,r.sz,cs,pre++(cs++rest.drop r.sz),rfl,hv,hl,⟨?_,?_⟩,?_⟩
    · simp only [List.length_append,hp,hl,hr,List.length_cons,Nat.succ_mul];omega
    · rw [hl, ← hp, List.take_left, List.drop_append]
      have:pre.drop (pre.length+r.sz)=[]:=List.drop_eq_nil_of_le (by omega)
      rw [this,List.nil_append,show pre.length+r.sz - pre.length=r.sz by omega,List.append_assoc]
    · have := PartsG.fill k (pre ++ cs) (rest.drop r.sz) (by rw [List.length_append, hp, hl, Nat.succ_mul]) (by rw [List.length_drop, hr, List.length_cons, Nat.succ_mul]; omega)
      simpa [List.append_assoc] using this
theorem PartsG.els {r:Rp α} {g:Hp} (hr:Holds g R):∀{i:Nat} {xs:List (Nat×Operand)} {vs:List (Nat×Value)} {es:List α} {css:List (List Value)},PartsG m R r i xs vs es css→Els r g css.flatten 0 es
  |_,[],[],[],[],_=>fun i x e=>by simp at e
  |_,(_,_) :: _,(_,_) :: _,x :: es,cs :: css,⟨_,_,h,hv,hok,hl,k⟩=>fun i y e=>by
    cases i with
    |zero=>
      simp at e;subst e
      obtain ⟨γ,h1,h2⟩:=hok g hr
      refine ⟨γ,⟨r.len _ _,fun j v ev=> ?_⟩,h2⟩
      rw [h1] at ev
      have hj:=(List.getElem?_eq_some_iff.1 ev).1
      simp only [List.flatten_cons,Nat.zero_mul,Nat.zero_add]
      rw [List.getElem?_append_left hj];exact ev
    |succ i=>
      obtain ⟨γ,a1,a2⟩:=PartsG.els hr k i y (by simpa using e)
      refine ⟨γ,⟨a1.1,fun j v ev=> ?_⟩,a2⟩
      have:=a1.2 j v ev
      simp only [List.flatten_cons]
      rw [List.getElem?_append_right (by rw [hl,Nat.succ_mul];omega),hl]
      rw [show 0+(i+1)*r.sz+j - r.sz=0+i*r.sz+j by rw [Nat.succ_mul];omega];exact this
end
theorem PartsG.n {α:Type} {m:Fm} {R:List Fa} {r:Rp α} {i:Nat}:PartsG m R r i [] [] [] []:=trivial
theorem PartsG.c {α:Type} {m:Fm} {R:List Fa} {r:Rp α} {i:Nat} {x0:Operand} {v:Value} {x:α} {cs:List Value} {xs:List (Nat×Operand)} {vs:List (Nat×Value)} {es:List α} {css:List (List Value)} (γ:r.G) (h:evo m x0=some v) (hv:v.cells=cs.toArray) (he:r.enc x γ=cs) (hok:∀g,Holds g R→r.ok g x γ) (k:PartsG m R r (i+1) xs vs es css):PartsG m R r i ((i,x0) :: xs) ((i,v) :: vs) (x :: es) (cs :: css):=
  ⟨rfl,rfl,h,hv,fun g hr=>⟨γ,he,hok g hr⟩,by rw [← he];exact r.len _ _,k⟩
abbrev T9:=(Int×Int×Int)×(Int×Int×Int)×(Int×Int×Int)
section
variable {P : Program} {c : Cx} {n : Sz} {Q : Exit → Act → World → Prop} {m : Fm} {O : List As} {R : List Fa} {α : Type} {d : Option Tmp} {ty : TypeId} {ps : String} {af : Array Edge} {gd : Option (Nat × Bool)}
theorem RowOn.take {T:TypeId} {r:Rp α} {p:Option Addr} {cap:Nat} {l:List α} {g h:Hp} (k:Nat) (s:RowOn T r p cap l g h):RowOn T r p cap (l.take k) g h:=by
  rcases s with ⟨h1,h2,h3,h4⟩|⟨b,off,cells,e1,e2,e3,e4,e5,e6⟩
  · exact .inl ⟨h1,h2,by rw [h3];simp,h4⟩
  · refine .inr ⟨b, off, cells, e1, by rw [List.length_take]; omega, e3, e4, e5, fun i x e => e6 i x ?_⟩
    rw [List.getElem?_take] at e
    split at e
    · exact e
    · cases e
theorem Sep.mapAt {g:Hp} {A B:As} (hAB:∀h,A.on g h→B.on g h):∀{O:List As} (i:Nat) {h:Hp},O[i]? =some A→Sep g O h→Sep g (O.set i B) h
  |[],_,_,e,_=>by simp at e
  |_ :: _,0,_,e,⟨h1,h2,a,e1,x,y⟩=>by simp at e;subst e;exact ⟨h1,h2,a,e1,hAB _ x,y⟩
  |_ :: _,i+1,_,e,⟨h1,h2,a,e1,x,y⟩=>⟨h1,h2,a,e1,x,Sep.mapAt hAB i (by simpa using e) y⟩
theorem Mem.rowTake {w:World} (i:Nat) {T:TypeId} {r:Rp α} {p:Option Addr} {cap:Nat} {l:List α} (hi:O[i]? =some (rowA T r p cap l)) (k:Nat) (mm:Mem c w O R):Mem c w (O.set i (rowA T r p cap (l.take k))) R:=
  mm.resep fun g h s=>Sep.mapAt (fun _ x=>RowOn.take k x) i hi s
end
theorem zwc {P:Program} {c:Cx} {n:Sz} {Q:Exit→Act→World→Prop} {m:Fm} {O:List As} {R:List Fa} {α:Type} {ro:Option Nat} {x:Code} {T:TypeId} {r:Rp α} {p:Option Addr} {cap:Nat} {l:List α} (i:Nat) (hi:O[i]? =some (rowA T r p cap l)) (k:l.length≤cap∧cap≤9223372036854775807→RunC (ro:=ro) P Q c n x m O R):RunC (ro:=ro) P Q c n x m O R:=fun a w f mm=>by
  obtain ⟨hh,g,m2⟩:=mm
  obtain ⟨k1,k2,_,_,hA,_,_⟩:=Sep.pick i hi m2.sep
  have hA':RowOn T r p cap l g k1:=hA
  refine k ?_ a w f ⟨hh,g,m2⟩
  rcases hA' with ⟨_,h2,h3,_⟩|⟨b,off,cells,_,e2,e3,_⟩
  · subst h2;subst h3;exact ⟨Nat.le_refl _,by decide⟩
  · unfold maxLen at e3;omega
section
variable {P : Program} {c : Cx} {n : Sz} {Q : Exit → Act → World → Prop} {m : Fm} {O OW : List As} {R R' : List Fa} {ops : Array Oper} {ro : Option Nat} {l : List Oper} {wi k : Nat} {L : Array Bool} {α : Type} {ty : TypeId} {ps : String} {af : Array Edge} {gd : Option (Nat × Bool)}
end
end Go.Proofs.Ytpdbimfnhglhpaa.Sp
namespace Go.Proofs.Ytpdbimfnhglhpaa.Big
theorem valL_drop (A:List Int) (k:Nat):valL (A.drop k)=A.getD k 0+1000000000*valL (A.drop (k+1)):=by
  rcases Nat.lt_or_ge k A.length with h|h
  · rw [List.drop_eq_getElem_cons h,List.getD_eq_getElem?_getD,List.getElem?_eq_getElem h];rfl
  · rw [List.drop_eq_nil_of_le h,List.drop_eq_nil_of_le (by omega),List.getD_eq_getElem?_getD,List.getElem?_eq_none h];rfl
theorem valL_cut (A:List Int) (k:Nat) (h:k≤A.length):valL A=valL (A.take k)+pw k*valL (A.drop k):=by
  have h1:=valL_append (A.take k) (A.drop k)
  rw [List.take_append_drop,List.length_take,Nat.min_eq_left h] at h1;exact h1
theorem okL_drop {l:List Int} (h:okL l) (k:Nat):okL (l.drop k):=fun d hd=>h d (List.mem_of_mem_drop hd)
theorem valL_take_lt {l:List Int} (h:okL l) (k:Nat):0≤valL (l.take k)∧valL (l.take k)<pw k:=by
  have h1:=valL_lt (okL_take h k)
  have h2:=valL_nonneg (okL_take h k)
  have h3:=pw_mono (show (l.take k).length≤k by rw [List.length_take];omega)
  omega
structure ShI (A:List Int) (d:Int) (k:Nat) (qs:List Int) (r:Int):Prop where
  le:k≤A.length
  len:qs.length=A.length - k
  ok:okL qs
  r0:0≤r
  r1:r<d
  eq:valL qs*d+r=valL (A.drop k)
theorem ShI.start {A:List Int} {d:Int} (hd:0<d):ShI A d A.length [] 0:=⟨Nat.le_refl _,by simp,okL_nil,Int.le_refl _,hd,by simp [valL]⟩
theorem sh_digit {r d g:Int} (h0:0≤r) (h1:r<d) (hg:0≤g∧g<1000000000):0≤(r*1000000000+g) / d∧(r*1000000000+g) / d<1000000000:=by
  refine ⟨Int.ediv_nonneg (by omega) (by omega),?_⟩
  refine Int.ediv_lt_of_lt_mul (by omega) ?_
  have:(r+1)*1000000000≤d*1000000000:=Int.mul_le_mul_of_nonneg_right (by omega) (by decide)
  rw [Int.mul_comm d] at this;omega
theorem ShI.step {A:List Int} {d:Int} {k:Nat} {qs:List Int} {r:Int} (h:ShI A d (k+1) qs r) (hA:okL A):ShI A d k ((r*1000000000+A.getD k 0) / d :: qs) ((r*1000000000+A.getD k 0)%d):=by
  have hg:=okL_getD hA k
  have h0:=h.r0;have h1:=h.r1;have hle:=h.le
  have hd:0<d:=by omega
  refine ⟨by omega,by simp only [List.length_cons,h.len];omega,okL_cons.2 ⟨sh_digit h0 h1 hg,h.ok⟩,Int.emod_nonneg _ (by omega),Int.emod_lt_of_pos _ hd,?_⟩
  rw [valL_drop,←h.eq]
  have e:=Int.mul_ediv_add_emod (r*1000000000+A.getD k 0) d
  simp only [valL]
  rw [Int.add_mul,Int.mul_comm _ d]
  have e2:1000000000*valL qs*d=1000000000*(valL qs*d):=Int.mul_assoc _ _ _
  omega
theorem ShI.fin {a m:Nat} {qs:List Int} {r:Int} (h:ShI (digs a) (m:Int) 0 qs r):trimL qs=digs (a / m)∧r=((a%m:Nat):Int):=by
  have e:=h.eq;have h0:=h.r0;have h1:=h.r1;have hn:=valL_nonneg h.ok
  rw [List.drop_zero,valL_digs] at e
  have hq:valL qs=((a / m:Nat):Int):=by
    rw [Int.natCast_ediv]
    symm
    have e3:(a:Int)=r+valL qs*(m:Int):=by omega
    rw [e3,Int.add_mul_ediv_right _ _ (by omega),Int.ediv_eq_zero_of_lt h0 h1];omega
  refine ⟨trimL_of h.ok hq,?_⟩
  rw [Int.natCast_emod]
  have e3:(a:Int)=r+valL qs*(m:Int):=by omega
  rw [e3,Int.add_mul_emod_self_right,Int.emod_eq_of_lt h0 h1]
structure LgI (M n:Nat) (a v:Int) (jj:Nat) (u qs:List Int):Prop where
  ul:u.length=M
  uo:okL u
  ql:qs.length=M - n - jj
  qo:okL qs
  jle:jj+n≤M
  eq:valL u+v*pw jj*valL qs=a
  lt:valL u<v*pw jj
structure Gs (T v vt top g r:Int):Prop where
  eq:g*vt+r=top
  r0:0≤r
  g0:0≤g
  up:T<(g+1)*v
structure Tp (T v vt vs u2 u1 u0 w:Int):Prop where
  w1:1≤w
  vt1:1≤vt
  vt2:vt<1000000000
  vs0:0≤vs
  vs1:vs<1000000000
  a0:0≤u0∧u0<1000000000
  a1:0≤u1∧u1<1000000000
  a2:0≤u2∧u2<1000000000
  vlo:(vt*1000000000+vs)*w≤v
  vhi:v<(vt*1000000000+vs+1)*w
  tlo:((u2*1000000000+u1)*1000000000+u0)*w≤T
  thi:T<((u2*1000000000+u1)*1000000000+u0+1)*w
  tv:T<v*1000000000
theorem mul_le_of {a b w:Int} (hw:0≤w) (h:a≤b):a*w≤b*w:=Int.mul_le_mul_of_nonneg_right h hw
theorem lt_of_mul {a b w:Int} (hw:1≤w) (h:a*w<b*w):a<b:=Int.lt_of_mul_lt_mul_right h (by omega)
theorem Tp.top {T v vt vs u2 u1 u0 w:Int} (h:Tp T v vt vs u2 u1 u0 w):u2≤vt:=by
  have h1:=h.tlo;have h2:=h.tv;have h3:=h.vhi;have hw:=h.w1
  have h4:=h.a0;have h5:=h.a1;have h6:=h.vs1
  have h7:((u2*1000000000+u1)*1000000000+u0)*w<((vt*1000000000+vs+1)*1000000000)*w:=by
    have:v*1000000000<(vt*1000000000+vs+1)*w*1000000000:=by omega
    have e:(vt*1000000000+vs+1)*w*1000000000=((vt*1000000000+vs+1)*1000000000)*w:=by rw [Int.mul_assoc,Int.mul_assoc,Int.mul_comm w]
    omega
  have h8:=lt_of_mul hw h7
  omega
theorem Tp.start {T v vt vs u2 u1 u0 w:Int} (h:Tp T v vt vs u2 u1 u0 w):Gs T v vt (u2*1000000000+u1) ((u2*1000000000+u1) / vt) ((u2*1000000000+u1)%vt):=by
  have hv:=h.vt1;have h1:=h.a1;have h2:=h.a2;have hw:=h.w1
  have e:=Int.mul_ediv_add_emod (u2*1000000000+u1) vt
  have hr:=Int.emod_lt_of_pos (u2*1000000000+u1) (show 0<vt by omega)
  have hr0:=Int.emod_nonneg (u2*1000000000+u1) (show vt≠0 by omega)
  have hq0:0≤(u2*1000000000+u1) / vt:=Int.ediv_nonneg (by omega) (by omega)
  generalize (u2*1000000000+u1) / vt=g at*
  generalize (u2*1000000000+u1)%vt=r at*
  refine ⟨by rw [Int.mul_comm];exact e,hr0,hq0,?_⟩
  have ht:=h.thi;have hl:=h.vlo;have h0:=h.a0;have hs:=h.vs0
  have k1:(u2*1000000000+u1)*1000000000+u0+1≤(g+1)*(vt*1000000000+vs):=by
    have k2:(g+1)*(vt*1000000000+vs)=1000000000*(vt*g)+1000000000*vt+(g+1)*vs:=by grind
    have k3:0≤(g+1)*vs:=Int.mul_nonneg (by omega) hs
    omega
  have k4:=mul_le_of (show 0≤w by omega) k1
  have k5:(g+1)*(vt*1000000000+vs)*w≤(g+1)*v:=by rw [Int.mul_assoc];exact Int.mul_le_mul_of_nonneg_left hl (by omega)
  omega
theorem Gs.le {T v vt vs u2 u1 u0 w g r:Int} (h:Tp T v vt vs u2 u1 u0 w) (k:Gs T v vt (u2*1000000000+u1) g r):g≤2000000000∧r≤1000000000000000000:=by
  have h1:=h.top;have h2:=k.eq;have h3:=h.a1;have h4:=h.vt1;have h5:=k.r0;have h6:=k.g0;have h7:=h.vt2
  have h8:0≤g*vt:=Int.mul_nonneg h6 (by omega)
  refine ⟨?_,by omega⟩
  refine Decidable.byContradiction fun hc=> ?_
  have h9:2000000001*vt≤g*vt:=Int.mul_le_mul_of_nonneg_right (by omega) (by omega)
  omega
theorem Gs.step {T v vt vs u2 u1 u0 w g r:Int} (h:Tp T v vt vs u2 u1 u0 w) (k:Gs T v vt (u2*1000000000+u1) g r) (hc:1000000000≤g∨r*1000000000+u0<g*vs):1≤g∧Gs T v vt (u2*1000000000+u1) (g - 1) (r+vt):=by
  have hr:=k.r0;have hg:=k.g0;have he:=k.eq;have hv:=h.vt1;have h0:=h.a0;have hw:=h.w1
  have hg1:1≤g:=by
    rcases hc with hc|hc
    · omega
    · refine Decidable.byContradiction fun hn => ?_
      have:g=0:=by omega
      subst this;simp at hc;omega
  have hvp:0≤v:=by
    have h1:=h.vlo;have h2:=h.vs0
    have:0≤(vt*1000000000+vs)*w:=Int.mul_nonneg (by omega) (by omega)
    omega
  refine ⟨hg1,⟨by rw [Int.sub_mul];omega,by omega,by omega,?_⟩⟩
  rw [show g - 1+1=g by omega]
  rcases hc with hc|hc
  · have h1 := h.tv
    have:1000000000*v≤g*v:=mul_le_of hvp hc
    omega
  · have h1 := h.thi; have h2 := h.vlo
    have k1:(u2*1000000000+u1)*1000000000+u0+1≤g*(vt*1000000000+vs):=by
      have:g*(vt*1000000000+vs)=1000000000*(g*vt)+g*vs:=by grind
      omega
    have k4:=mul_le_of (show 0≤w by omega) k1
    have k5:g*(vt*1000000000+vs)*w≤g*v:=by rw [Int.mul_assoc];exact Int.mul_le_mul_of_nonneg_left h2 (by omega)
    omega
theorem Gs.fin {T v vt vs u2 u1 u0 w g r:Int} (h:Tp T v vt vs u2 u1 u0 w) (k:Gs T v vt (u2*1000000000+u1) g r) (h1:g<1000000000) (h2:g*vs≤r*1000000000+u0):g*v<T+v:=by
  have he:=k.eq;have hg:=k.g0;have hw:=h.w1;have hv:=h.vt1;have hs:=h.vs0
  have k1:g*(vt*1000000000+vs)≤(u2*1000000000+u1)*1000000000+u0:=by
    have:g*(vt*1000000000+vs)=1000000000*(g*vt)+g*vs:=by grind
    omega
  have k2:=mul_le_of (show 0≤w by omega) k1
  have k3:=h.tlo
  have hl:=h.vlo;have hh:=h.vhi
  have k4:g*(v - (vt*1000000000+vs)*w)≤g*w:=Int.mul_le_mul_of_nonneg_left (by rw [Int.add_mul (vt*1000000000+vs),Int.one_mul] at hh;omega) hg
  have k5:g*w≤999999999*w:=mul_le_of (by omega) (by omega)
  have k6:1000000000*w≤(vt*1000000000+vs)*w:=mul_le_of (by omega) (by omega)
  rw [Int.mul_sub,←Int.mul_assoc] at k4
  omega
theorem LgI.T {M n:Nat} {a v:Int} {j:Nat} {u qs:List Int} (h:LgI M n a v (j+1) u qs):valL u=valL (u.take j)+pw j*valL (u.drop j)∧0≤valL (u.take j)∧valL (u.take j)<pw j∧0≤valL (u.drop j)∧valL (u.drop j)<v*1000000000:=by
  have h1:=valL_cut u j (by rw [h.ul];have:=h.jle;omega)
  have h2:=valL_take_lt h.uo j
  have h3:=valL_nonneg (okL_drop h.uo j)
  refine ⟨h1,h2.1,h2.2,h3,?_⟩
  have h4:=h.lt
  rw [pw_succ] at h4
  have h5:pw j*valL (u.drop j)<pw j*(v*1000000000):=by
    have:v*(1000000000*pw j)=pw j*(v*1000000000):=by ac_rfl
    omega
  exact Int.lt_of_mul_lt_mul_left h5 (Int.le_of_lt (pw_pos j))
theorem drop_high {l:List Int} (h:okL l) {k:Nat} (hv:valL l<pw k):valL (l.drop k)=0:=by
  rcases Nat.lt_or_ge l.length k with hk|hk
  · rw [List.drop_eq_nil_of_le (by omega)];rfl
  · have h1 := valL_cut l k hk
    have h2:=valL_nonneg (okL_take h k)
    have h3:=valL_nonneg (okL_drop h k)
    refine Decidable.byContradiction fun hc=> ?_
    have:pw k*1≤pw k*valL (l.drop k):=Int.mul_le_mul_of_nonneg_left (by omega) (Int.le_of_lt (pw_pos k))
    omega
theorem digs_top {b:Nat} {n:Nat} (h:(digs b).length=n+1):1≤(digs b).getD n 0:=by
  have h1:=canon_digs (b:Int)
  unfold canon at h1
  rw [Int.natAbs_natCast,if_neg (by omega),h,Nat.add_sub_cancel] at h1
  have h2:=okL_getD (digs_ok b) n
  omega
theorem LgI.high {M n:Nat} {a:Int} {b j:Nat} {u qs:List Int} (h:LgI M n a (b:Int) (j+1) u qs) (hn:(digs b).length=n):valL (u.drop (j+(n+1)))=0:=by
  have ht:=h.T
  have hb:=digs_lt b
  rw [hn] at hb
  have:=drop_high (okL_drop h.uo j) (k:=n+1) (by rw [pw_succ];omega)
  rw [List.drop_drop] at this;exact this
theorem LgI.tp {M m:Nat} {a:Int} {b j:Nat} {u qs:List Int} (h:LgI M (m+2) a (b:Int) (j+1) u qs) (hn:(digs b).length=m+2):Tp (valL (u.drop j)) b ((digs b).getD (m+1) 0) ((digs b).getD m 0) (u.getD (j+(m+2)) 0) (u.getD (j+(m+1)) 0) (u.getD (j+m) 0) (pw m):=by
  have ht:=h.T
  have hh:=h.high hn
  have hvb:=valL_digs b
  have e1:valL (digs b)=valL ((digs b).take m)+pw m*valL ((digs b).drop m):=valL_cut _ _ (by omega)
  have e2:valL ((digs b).drop m)=(digs b).getD m 0+1000000000*(digs b).getD (m+1) 0:=by
    rw [valL_drop,valL_drop,List.drop_eq_nil_of_le (show (digs b).length≤m+1+1 by omega)];simp [valL]
  have e3:=valL_take_lt (digs_ok b) m
  have f1:valL (u.drop j)=valL ((u.drop j).take m)+pw m*valL ((u.drop j).drop m):=valL_cut _ _ (by rw [List.length_drop,h.ul];have:=h.jle;omega)
  have f2:valL ((u.drop j).drop m)=u.getD (j+m) 0+1000000000*(u.getD (j+(m+1)) 0+1000000000*u.getD (j+(m+2)) 0):=by
    rw [List.drop_drop,valL_drop,valL_drop,valL_drop,show j+m+1+1+1=j+(m+2+1) by omega,hh,show j+m+1=j+(m+1) by omega,show j+(m+1)+1=j+(m+2) by omega];omega
  have f3:=valL_take_lt (okL_drop h.uo j) m
  have hp:=pw_pos m
  have ob:=digs_ok b
  have g1:=okL_getD ob (m+1);have g0:=okL_getD ob m
  have c0:=okL_getD h.uo (j+m);have c1:=okL_getD h.uo (j+(m+1));have c2:=okL_getD h.uo (j+(m+2))
  refine ⟨by omega,digs_top (n:=m+1) hn,g1.2,g0.1,g0.2,c0,c1,c2,?_,?_,?_,?_,ht.2.2.2.2⟩
  · rw [← hvb, e1, e2]
    have:(digs b).getD (m+1) 0*1000000000+(digs b).getD m 0=(digs b).getD m 0+1000000000*(digs b).getD (m+1) 0:=by omega
    rw [this,Int.mul_comm];omega
  · rw [← hvb, e1, e2]
    have:(digs b).getD (m+1) 0*1000000000+(digs b).getD m 0+1=((digs b).getD m 0+1000000000*(digs b).getD (m+1) 0)+1:=by omega
    rw [this,Int.add_mul,Int.mul_comm _ (pw m)];omega
  · rw [f1, f2]
    have:(u.getD (j+(m+2)) 0*1000000000+u.getD (j+(m+1)) 0)*1000000000+u.getD (j+m) 0=u.getD (j+m) 0+1000000000*(u.getD (j+(m+1)) 0+1000000000*u.getD (j+(m+2)) 0):=by omega
    rw [this,Int.mul_comm];omega
  · rw [f1, f2]
    have:(u.getD (j+(m+2)) 0*1000000000+u.getD (j+(m+1)) 0)*1000000000+u.getD (j+m) 0+1=(u.getD (j+m) 0+1000000000*(u.getD (j+(m+1)) 0+1000000000*u.getD (j+(m+2)) 0))+1:=by omega
    rw [this,Int.add_mul,Int.mul_comm _ (pw m)];omega
structure MsI (u:List Int) (j:Nat) (g:Int) (v:List Int) (i:Nat) (u2:List Int) (bo ca:Int):Prop where
  len:u2.length=u.length
  ok:okL u2
  b0:0≤bo
  b1:bo≤1
  c0:0≤ca
  c1:ca<1000000000
  far:∀k,j+i≤k→u2.getD k 0=u.getD k 0
  eq:valL u2=valL u - pw j*(g*valL (v.take i))+pw (j+i)*(bo+ca)
theorem MsI.start {u:List Int} (h:okL u) (j:Nat) (g:Int) (v:List Int):MsI u j g v 0 u 0 0:=⟨rfl,h,by decide,by decide,by decide,by decide,fun _ _=>rfl,by simp [valL]⟩
theorem ms_carry {g x ca:Int} (hg:0≤g∧g<1000000000) (hx:0≤x∧x<1000000000) (hc:0≤ca∧ca<1000000000):0≤g*x+ca∧g*x+ca≤999999999000000000∧0≤(g*x+ca) / 1000000000∧(g*x+ca) / 1000000000<1000000000:=by
  have h1:0≤g*x:=Int.mul_nonneg hg.1 hx.1
  have h2:g*x≤999999999*x:=mul_le_of hx.1 (by omega)
  omega
theorem MsI.step {u:List Int} {j:Nat} {g:Int} {v:List Int} {i:Nat} {u2:List Int} {bo ca y bo2:Int} (h:MsI u j g v i u2 bo ca) (hg:0≤g∧g<1000000000) (hv:okL v) (hj:j+i<u.length)
    (hy:y=u2.getD (j+i) 0 - bo - (g*v.getD i 0+ca)%1000000000+1000000000*bo2) (hy0:0≤y∧y<1000000000) (hb:0≤bo2∧bo2≤1):MsI u j g v (i+1) (u2.set (j+i) y) bo2 ((g*v.getD i 0+ca) / 1000000000):=by
  have hc:=ms_carry hg (okL_getD hv i) ⟨h.c0,h.c1⟩
  refine ⟨by rw [List.length_set];exact h.len,okL_set h.ok hy0.1 hy0.2,hb.1,hb.2,hc.2.2.1,hc.2.2.2,fun k hk=>by rw [getD_set_ne (by omega)];exact h.far k (by omega),?_⟩
  rw [valL_set y (by rw [h.len];exact hj),h.eq,valL_take_succ,hy]
  have e:=Int.mul_ediv_add_emod (g*v.getD i 0+ca) 1000000000
  rw [← Nat.add_assoc,pw_succ,pw_add]
  generalize (g*v.getD i 0+ca) / 1000000000=q at*
  generalize (g*v.getD i 0+ca)%1000000000=r at*
  have e2:r=g*v.getD i 0+ca - 1000000000*q:=by omega
  subst e2
  grind
structure AbI (u:List Int) (j:Nat) (v:List Int) (i:Nat) (u2:List Int) (ca:Int):Prop where
  len:u2.length=u.length
  ok:okL u2
  c0:0≤ca
  c1:ca≤1
  far:∀k,j+i≤k→u2.getD k 0=u.getD k 0
  eq:valL u2=valL u+pw j*valL (v.take i) - pw (j+i)*ca
theorem AbI.start {u:List Int} (h:okL u) (j:Nat) (v:List Int):AbI u j v 0 u 0:=⟨rfl,h,by decide,by decide,fun _ _=>rfl,by simp [valL]⟩
theorem AbI.step {u:List Int} {j:Nat} {v:List Int} {i:Nat} {u2:List Int} {ca y c2:Int} (h:AbI u j v i u2 ca) (hj:j+i<u.length)
    (hy:y=u2.getD (j+i) 0+v.getD i 0+ca - 1000000000*c2) (hy0:0≤y∧y<1000000000) (hb:0≤c2∧c2≤1):AbI u j v (i+1) (u2.set (j+i) y) c2:=by
  refine ⟨by rw [List.length_set];exact h.len,okL_set h.ok hy0.1 hy0.2,hb.1,hb.2,fun k hk=>by rw [getD_set_ne (by omega)];exact h.far k (by omega),?_⟩
  rw [valL_set y (by rw [h.len];exact hj),h.eq,valL_take_succ,hy]
  rw [← Nat.add_assoc,pw_succ,pw_add]
  grind
theorem LgI.next {M n:Nat} {a v:Int} {j:Nat} {u qs:List Int} (h:LgI M n a v (j+1) u qs) {u':List Int} {g:Int} (hl:u'.length=M) (ho:okL u') (hg:0≤g∧g<1000000000) (he:valL u'=valL u - pw j*(g*v)) (hlt:valL u'<v*pw j):LgI M n a v j u' (g :: qs):=by
  have hj:=h.jle
  refine ⟨hl,ho,by rw [List.length_cons,h.ql];omega,okL_cons.2 ⟨hg,h.qo⟩,by omega,?_,hlt⟩
  rw [he,←h.eq,pw_succ]
  simp only [valL]
  grind
theorem LgI.bound {M n:Nat} {a v:Int} {j:Nat} {u qs:List Int} (h:LgI M n a v (j+1) u qs) {g:Int} (hup:valL (u.drop j)<(g+1)*v):valL u<pw j*((g+1)*v):=by
  obtain ⟨h1,h2,h3,h4,_⟩:=h.T
  have:pw j*(valL (u.drop j)+1)≤pw j*((g+1)*v):=Int.mul_le_mul_of_nonneg_left (by omega) (Int.le_of_lt (pw_pos j))
  rw [Int.mul_add,Int.mul_one] at this;omega
theorem LgI.pos {M n:Nat} {a:Int} {b j:Nat} {u qs:List Int} (h:LgI M n a (b:Int) (j+1) u qs) {g:Int} (hg:0≤g∧g<1000000000) (hup:valL (u.drop j)<(g+1)*(b:Int))
    {u2:List Int} {bo ca:Int} (hm:MsI u j g (digs b) n u2 bo ca) (hn:(digs b).length=n) (hd:0≤u2.getD (j+n) 0 - bo - ca):LgI M n a (b:Int) j (u2.set (j+n) (u2.getD (j+n) 0 - bo - ca)) (g :: qs):=by
  have hj:=h.jle
  have hx:=okL_getD hm.ok (j+n)
  have h1:=hm.b0;have h2:=hm.c0
  have he:valL (u2.set (j+n) (u2.getD (j+n) 0 - bo - ca))=valL u - pw j*(g*(b:Int)):=by
    rw [valL_set _ (by rw [hm.len,h.ul];omega),hm.eq,List.take_of_length_le (by omega),valL_digs]
    grind
  refine h.next (by rw [List.length_set,hm.len,h.ul]) (okL_set hm.ok hd (by omega)) hg he ?_
  have:=h.bound hup
  rw [he]
  have e:pw j*((g+1)*(b:Int))=pw j*(g*(b:Int))+(b:Int)*pw j:=by grind
  omega
theorem LgI.start {M n a b:Nat} {u:List Int} (ho:okL u) (hl:u.length=M) (hv:valL u=(a:Int)) (hn:(digs b).length=n) (hM:n+1≤M) (hu:valL u<pw (M - 1)) (h1:1≤n):LgI M n (a:Int) (b:Int) (M - n) u []:=by
  refine ⟨hl,ho,by simp,okL_nil,by omega,by rw [hv];simp [valL],?_⟩
  have h2:pw (n - 1)≤(b:Int):=digs_low (by omega)
  have h3:pw (M - 1)=pw (n - 1)*pw (M - n):=by rw [← pw_add];congr 1;omega
  have h4:pw (n - 1)*pw (M - n)≤(b:Int)*pw (M - n):=mul_le_of (Int.le_of_lt (pw_pos _)) h2
  omega
theorem LgI.fin {M n a b:Nat} {u qs:List Int} (h:LgI M n (a:Int) (b:Int) 0 u qs) (hn:(digs b).length=n):trimL qs=digs (a / b)∧trimL (u.take n)=digs (a%b):=by
  have e:=h.eq;have hlt:=h.lt
  rw [pw_zero,Int.mul_one] at e hlt
  have h0:=valL_nonneg h.uo;have hq0:=valL_nonneg h.qo
  have hu:valL u=((a%b:Nat):Int):=by
    rw [Int.natCast_emod,←e,Int.add_mul_emod_self_left,Int.emod_eq_of_lt h0 hlt]
  have hq:valL qs=((a / b:Nat):Int):=by
    rw [Int.natCast_ediv,←e,Int.add_mul_ediv_left _ _ (by omega),Int.ediv_eq_zero_of_lt h0 hlt];omega
  refine ⟨trimL_of h.qo hq,trimL_of (okL_take h.uo n) ?_⟩
  have h1:=h.jle
  have hc:=valL_cut u n (by rw [h.ul];omega)
  have hz:valL (u.drop n)=0:=drop_high h.uo (by have:=digs_lt b;rw [hn] at this;omega)
  rw [hz,Int.mul_zero,Int.add_zero] at hc
  rw [← hc,hu]
end Go.Proofs.Ytpdbimfnhglhpaa.Big
namespace Go.Proofs.Ytpdbimfnhglhpaa.Big
def fq (x y:Int):Int:=if 0<y then x / y else (-x) / (-y)
def fr (x y:Int):Int:=x - y*fq x y
end Go.Proofs.Ytpdbimfnhglhpaa.Big
namespace Go.Proofs.Ytpdbimfnhglhpaa.Big
structure ScI (A:List Int) (d:Int) (i:Nat) (os:List Int) (cy:Int):Prop where
  le:i≤A.length
  len:os.length=i
  ok:okL os
  c0:0≤cy
  c1:cy<1000000000
  val:valL os+pw i*cy=valL (A.take i)*d
theorem ScI.start (A:List Int) (d:Int):ScI A d 0 [] 0:=⟨Nat.zero_le _,rfl,okL_nil,by decide,by decide,by simp [valL]⟩
theorem sc_lim {x d cy:Int} (hx:0≤x∧x<1000000000) (hd:0≤d∧d<1000000000) (hc:0≤cy∧cy<1000000000):0≤x*d∧x*d+cy<1000000000000000000∧0≤(x*d+cy) / 1000000000∧(x*d+cy) / 1000000000<1000000000:=by
  have:=mul_lim hx hd;omega
theorem ScI.step {A:List Int} {d:Int} {i:Nat} {os:List Int} {cy:Int} (h:ScI A d i os cy) (hA:okL A) (hd:0≤d∧d<1000000000) (hi:i<A.length):
    ScI A d (i+1) (os++[(A.getD i 0*d+cy)%1000000000]) ((A.getD i 0*d+cy) / 1000000000):=by
  have hl:=sc_lim (okL_getD hA i) hd ⟨h.c0,h.c1⟩
  refine ⟨by omega,by simp [h.len],okL_snoc h.ok (by omega) (by omega),hl.2.2.1,hl.2.2.2,?_⟩
  rw [valL_snoc,h.len,valL_take_succ,pw_succ]
  have e:=h.val
  have hs:(A.getD i 0*d+cy)=1000000000*((A.getD i 0*d+cy) / 1000000000)+(A.getD i 0*d+cy)%1000000000:=by omega
  generalize (A.getD i 0*d+cy) / 1000000000=q at*
  generalize (A.getD i 0*d+cy)%1000000000=r at*
  have h2:pw i*(A.getD i 0*d+cy)=pw i*(1000000000*q+r):=by rw [hs]
  generalize A.getD i 0=x at*
  generalize valL os=a at*
  generalize valL (A.take i)=b at*
  generalize pw i=p at*
  grind
theorem ScI.fin {a d i:Nat} {os:List Int} {cy:Int} (h:ScI (digs a) (d:Int) i os cy) (hi:(digs a).length≤i):okL (os++[cy])∧valL (os++[cy])=((a*d:Nat):Int):=by
  refine ⟨okL_snoc h.ok h.c0 h.c1,?_⟩
  rw [valL_snoc,h.len,h.val,List.take_of_length_le hi,valL_digs,Int.natCast_mul]
structure PtI (A V:Nat) (j:Nat) (qs:List Int) (R:Nat):Prop where
  le:j≤(digs A).length
  ok:okL qs
  val:valL ((digs A).drop j)=valL qs*V+R
  lt:R<V
theorem PtI.start {A V n j R:Nat} (hV:(digs V).length=n+1) (hj:j+n=(digs A).length) (hR:valL ((digs A).drop j)=(R:Int)):PtI A V j [] R:=by
  refine ⟨by omega,okL_nil,by rw [hR];simp [valL],?_⟩
  have h1:=valL_lt (okL_drop (digs_ok A) j)
  rw [hR,List.length_drop,show (digs A).length - j=n by omega] at h1
  have h2:=digs_low (k:=n) (n:=V) (by omega)
  omega
theorem pt_lim {V R d:Nat} (h:R<V) (hd:d<1000000000):R*1000000000+d<V*1000000000:=by omega
theorem PtI.step {A V j:Nat} {qs:List Int} {R d g r:Nat} (h:PtI A V (j+1) qs R) (hd:(digs A).getD j 0=(d:Int)) (hg:r+V*g=R*1000000000+d) (hr:r<V):PtI A V j ((g:Int) :: qs) r:=by
  have hd1:=okL_getD (digs_ok A) j
  have hgl:g<1000000000:=by
    have h1:=pt_lim h.lt (show d<1000000000 by omega)
    exact Nat.lt_of_mul_lt_mul_left (a:=V) (by omega)
  refine ⟨Nat.le_of_succ_le h.le,okL_cons.2 ⟨by omega,h.ok⟩,?_,hr⟩
  rw [valL_drop,h.val,hd]
  simp only [valL]
  have hg2:(r:Int)+(V:Int)*(g:Int)=(R:Int)*1000000000+(d:Int):=by
    rw [← Int.natCast_mul];omega
  generalize valL qs=q at*
  grind
theorem PtI.fin {A V:Nat} {qs:List Int} {R:Nat} (h:PtI A V 0 qs R):valL qs=((A / V:Nat):Int)∧R=A%V:=by
  have h0:=h.val
  rw [List.drop_zero,valL_digs] at h0
  have hn:=valL_nonneg h.ok
  have hl:=h.lt
  obtain ⟨q,hq⟩:∃q:Nat,valL qs=(q:Int):=⟨(valL qs).toNat,by omega⟩
  rw [hq,←Int.natCast_mul] at h0
  have h1:A=R+V*q:=by rw [Nat.mul_comm];omega
  rw [hq,h1,Nat.add_mul_div_left _ _ (by omega),Nat.div_eq_of_lt hl,Nat.add_mul_mod_self_left,Nat.mod_eq_of_lt hl]
  simp
end Go.Proofs.Ytpdbimfnhglhpaa.Big
namespace Go.Proofs.Ytpdbimfnhglhpaa.Big
abbrev RQ:=(Bool×List Int)×(Bool×List Int)
def qok (x:RQ):Prop:=canon x.1.1 x.1.2∧canon x.2.1 x.2.2∧0<raw x.2.1 x.2.2∧Nat.gcd (raw x.1.1 x.1.2).natAbs (raw x.2.1 x.2.2).natAbs=1
instance (x:RQ):Decidable (qok x):=inferInstanceAs (Decidable (_∧_))
def hq (q:Rat):Nat:=max (ln q.num) (ln (q.den:Int))
end Go.Proofs.Ytpdbimfnhglhpaa.Big
namespace Go.Proofs.Ytpdbimfnhglhpaa.Sp
open Go
set_option linter.unusedVariables false
def Wd.raw (g:Hp) (w:Wd) (x:Bool×List Int):Prop:=w.s=x.1∧w.n=x.2.length∧x.2.length≤1048576∧Sl (rI .u32) g w.p w.c x.2
theorem Sl.nn {g:Hp} {p:Option Addr} {c:Nat} {l:List Int} (h:Sl (rI .u32) g p c l):Big.nn l:=fun d hd=>by
  obtain ⟨j,hj⟩:=List.getElem?_of_mem hd
  obtain ⟨_,_,_,_,_,e⟩:=h.2.2.2 j d hj
  exact (zid.1 e).1
section
variable {P : Program} {c : Cx} {n : Sz} {Q : Exit → Act → World → Prop} {m : Fm} {O : List As} {R : List Fa} {f : Nat} {u v : Wd} {q : Rat}
end
section
variable {P : Program} {c : Cx} {m : Fm} {O : List As} {R : List Fa}
end
section
variable {P : Program} {n : Sz} {m : Fm} {d : Option Tmp} {ty : TypeId} {ps : String} {af : Array Edge} {gd : Option (Nat × Bool)}
theorem zod {x y z:Operand} {ats:Array TypeId} {k:IntKind} {a b e:Int} (h1:evo m x=some (.int k a)) (h2:evo m y=some (.int k b)) (h3:evo m z=some (.int k e)):PV P n ⟨d,.call ⟨.builtin .min,#[x,y,z],ats⟩,ty,ps,af,gd⟩ m (.int k (min (min a b) e)):=fun ac w f=>by
  have t1:(if b<a then b else a)=min a b:=by by_cases h:b<a <;> simp [h,Int.min_def] <;> omega
  have t0:∀q:Int,(if e<q then e else q)=min q e:=fun q=>by by_cases h:e<q <;> simp [h,Int.min_def] <;> omega
  have t2:=t0 (min a b)
  simp [execOp,resolve,invoke,builtin,Builtin.min_,Builtin.min2,f.ev h1,f.ev h2,f.ev h3,t1,t2]
end
end Go.Proofs.Ytpdbimfnhglhpaa.Sp
namespace Go.Proofs.Ytpdbimfnhglhpaa.Bl
def ok (ar l t r b sx sy xx xy yy ms mx my:Int):Prop:=
  (1≤ar∧ar≤4096)∧(0≤l∧l≤r)∧r≤63∧(0≤t∧t≤b)∧b≤63∧(ar*l≤sx∧sx≤ar*r)∧(ar*t≤sy∧sy≤ar*b)∧
  (0≤xx∧xx≤ar*63*63)∧(0≤xy∧xy≤ar*63*63)∧(0≤yy∧yy≤ar*63*63)∧(0≤ms∧ms≤ar*65535)∧(ms*l≤mx∧mx≤ms*r)∧(ms*t≤my∧my≤ms*b)
instance (ar l t r b sx sy xx xy yy ms mx my:Int):Decidable (ok ar l t r b sx sy xx xy yy ms mx my):=inferInstanceAs (Decidable (_∧_))
theorem mul_b {x y m n:Int} (hx:0≤x∧x≤m) (hy:0≤y∧y≤n):0≤x*y∧x*y≤m*n:=
  ⟨Int.mul_nonneg hx.1 hy.1,Int.mul_le_mul hx.2 hy.2 hy.1 (Int.le_trans hx.1 hx.2)⟩
def bd (ar l t r b sx sy xx xy yy ms mx my:Int):Prop:=
  (0≤ar∧ar≤1000000000000)∧(0≤sx∧sx≤1000000000000)∧(0≤sy∧sy≤1000000000000)∧(0≤xx∧xx≤1000000000000)∧(0≤xy∧xy≤1000000000000)∧(0≤yy∧yy≤1000000000000)∧(0≤ms∧ms≤1000000000000)∧(0≤mx∧mx≤1000000000000)∧(0≤my∧my≤1000000000000)
theorem ok_bd {ar l t r b sx sy xx xy yy ms mx my:Int} (h:ok ar l t r b sx sy xx xy yy ms mx my):bd ar l t r b sx sy xx xy yy ms mx my:=by
  unfold ok at h
  have a1:=mul_b (x:=ar) (y:=l) (m:=4096) (n:=63) (by omega) (by omega)
  have a2:=mul_b (x:=ar) (y:=r) (m:=4096) (n:=63) (by omega) (by omega)
  have a3:=mul_b (x:=ar) (y:=t) (m:=4096) (n:=63) (by omega) (by omega)
  have a4:=mul_b (x:=ar) (y:=b) (m:=4096) (n:=63) (by omega) (by omega)
  have b1:=mul_b (x:=ms) (y:=l) (m:=268431360) (n:=63) (by omega) (by omega)
  have b2:=mul_b (x:=ms) (y:=r) (m:=268431360) (n:=63) (by omega) (by omega)
  have b3:=mul_b (x:=ms) (y:=t) (m:=268431360) (n:=63) (by omega) (by omega)
  have b4:=mul_b (x:=ms) (y:=b) (m:=268431360) (n:=63) (by omega) (by omega)
  unfold bd;omega
theorem c0 {p:Prop} [Decidable p]:(if p then (0:Int) else 1)=0↔p:=by split <;> simp_all
def rok (w h m:Int) (l:List Int):Prop:=(1≤w∧w≤64)∧(1≤h∧h≤64)∧(1≤m∧m≤65535)∧(l.length:Int)=w*h∧¬∃x∈l,x<0∨m<x
instance (w h m:Int) (l:List Int):Decidable (rok w h m l):=inferInstanceAs (Decidable (_∧_))
end Go.Proofs.Ytpdbimfnhglhpaa.Bl
namespace Go.Proofs.Ytpdbimfnhglhpaa.Ms
set_option linter.unusedVariables false
abbrev V3:=Int×Int×Int
section
variable {α : Type}
theorem drop_cons {l:List α} {i:Nat} (d:α) (h:i<l.length):l.drop i=l.getD i d :: l.drop (i+1):=by
  rw [List.drop_eq_getElem_cons h];simp [List.getD,List.getElem?_eq_getElem h]
theorem take_snoc {l:List α} {i:Nat} (d:α) (h:i<l.length):l.take (i+1)=l.take i++[l.getD i d]:=by
  rw [List.take_add_one];simp [List.getD,List.getElem?_eq_getElem h]
theorem ext_getD {l m:List α} (d:α) (hl:l.length=m.length) (h:∀j,j<l.length→l.getD j d=m.getD j d):l=m:=by
  refine List.ext_getElem hl fun i h1 h2=> ?_
  have:=h i h1
  simpa [List.getD,List.getElem?_eq_getElem h1,List.getElem?_eq_getElem h2] using this
theorem getD_mem {l:List α} {i:Nat} (d:α) (h:i<l.length):l.getD i d∈l:=by
  simp [List.getD,List.getElem?_eq_getElem h]
theorem mem_getD {l:List α} {x:α} (d:α) (h:x∈l):∃j,j<l.length∧l.getD j d=x:=by
  obtain ⟨j,hj,e⟩:=List.getElem_of_mem h
  exact ⟨j,hj,by simp [List.getD,List.getElem?_eq_getElem hj,e]⟩
theorem any_false {l:List α} {f:α→Bool} (d:α) (h:∀j,j<l.length→f (l.getD j d)=false):l.any f=false:=by
  rw [List.any_eq_false]
  intro x hx
  obtain ⟨j,hj,e⟩:=mem_getD d hx
  have:=h j hj
  rw [e] at this;simp [this]
theorem any_true {l:List α} {f:α→Bool} (d:α) {i:Nat} (hi:i<l.length) (h:f (l.getD i d)=true):l.any f=true:=
  List.any_eq_true.2 ⟨_,getD_mem d hi,h⟩
theorem all_lt_succ {P:Nat→Prop} {i:Nat} (h:∀j,j<i→P j) (hi:P i):∀j,j<i+1→P j:=fun j hj=>by
  by_cases e:j=i
  · subst e;exact hi
  · exact h j (by omega)
end
def farI (n:Int):Bool:=decide (n< -0x100000∨0x100000<n)
def far (p:V3):Bool:=[p.1,p.2.1,p.2.2].any farI
def badIx (n:Nat) (f:V3):Bool:=decide (f.1<0∨(n:Int)≤f.1∨f.2.1<0∨(n:Int)≤f.2.1∨f.2.2<0∨(n:Int)≤f.2.2)
def deg (f:V3):Bool:=decide (f.1=f.2.1∨f.2.1=f.2.2∨f.2.2=f.1)
def formF (n:Nat):List V3→Int
  |[]=>0
  |f :: l=>if badIx n f then 2 else if deg f then 13 else formF n l
def form (V F:List V3):Int:=if 512<V.length∨1024<F.length then 3 else if V.any far then 2 else formF V.length F
theorem formF_step {n:Nat} {F:List V3} {i:Nat} (h:i<F.length):formF n (F.drop i)=if badIx n (F.getD i (0,0,0)) then 2 else if deg (F.getD i (0,0,0)) then 13 else formF n (F.drop (i+1)):=by
  rw [drop_cons (0,0,0) h];rfl
structure Good (V F:List V3):Prop where
  nv:V.length≤512
  nf:F.length≤1024
  far:∀p∈V,far p=false
  ix:∀f∈F,badIx V.length f=false
  dg:∀f∈F,deg f=false
theorem formF_zero {n:Nat}:∀{F:List V3},formF n F=0↔(∀f∈F,badIx n f=false)∧∀f∈F,deg f=false
  |[]=>by simp [formF]
  |f :: l=>by
    simp only [formF,List.mem_cons,forall_eq_or_imp]
    by_cases h1:badIx n f=true
    · simp [h1]
    · by_cases h2 : deg f = true
      · simp [h1,h2]
      · simp [h1,h2,formF_zero (F:=l)]
theorem form_zero {V F:List V3}:form V F=0↔Good V F:=by
  unfold form
  constructor
  · intro h
    split at h
    · cases h
    · split at h
      · cases h
      · rename_i h1 h2
        obtain ⟨h3,h4⟩:=formF_zero.1 h
        exact ⟨by omega,by omega,fun p hp=>by simp at h2;exact h2 _ _ _ hp,h3,h4⟩
  · intro ⟨h1, h2, h3, h4, h5⟩
    rw [if_neg (by omega),if_neg (by simp only [Bool.not_eq_true];rw [List.any_eq_false];intro p hp;simp [h3 p hp])]
    exact formF_zero.2 ⟨h4,h5⟩
theorem Good.at {V F:List V3} (h:Good V F) {i:Nat} (hi:i<F.length):(0≤(F.getD i (0,0,0)).1∧(F.getD i (0,0,0)).1<V.length)∧(0≤(F.getD i (0,0,0)).2.1∧(F.getD i (0,0,0)).2.1<V.length)∧(0≤(F.getD i (0,0,0)).2.2∧(F.getD i (0,0,0)).2.2<V.length)∧
    (F.getD i (0,0,0)).1≠(F.getD i (0,0,0)).2.1∧(F.getD i (0,0,0)).2.1≠(F.getD i (0,0,0)).2.2∧(F.getD i (0,0,0)).2.2≠(F.getD i (0,0,0)).1:=by
  have h1:=h.ix _ (getD_mem (0,0,0) hi)
  have h2:=h.dg _ (getD_mem (0,0,0) hi)
  simp only [badIx,deg,decide_eq_false_iff_not] at h1 h2
  omega
theorem Good.vat {V F:List V3} (h:Good V F) {i:Nat} (hi:i<V.length):(-0x100000≤(V.getD i (0,0,0)).1∧(V.getD i (0,0,0)).1≤0x100000)∧(-0x100000≤(V.getD i (0,0,0)).2.1∧(V.getD i (0,0,0)).2.1≤0x100000)∧(-0x100000≤(V.getD i (0,0,0)).2.2∧(V.getD i (0,0,0)).2.2≤0x100000):=by
  have h1:=h.far _ (getD_mem (0,0,0) hi)
  simp only [Ms.far,farI,List.any_cons,List.any_nil,Bool.or_false,Bool.or_eq_false_iff,decide_eq_false_iff_not] at h1
  omega
theorem form_lim {V F:List V3} (h:512<V.length∨1024<F.length):form V F=3:=by unfold form;rw [if_pos h]
theorem form_far {V F:List V3} (h:¬(512<V.length∨1024<F.length)) (h2:V.any far=true):form V F=2:=by unfold form;rw [if_neg h,if_pos h2]
theorem form_go {V F:List V3} (h:¬(512<V.length∨1024<F.length)) (h2:V.any far=false):form V F=formF V.length F:=by unfold form;rw [if_neg h,if_neg (by simp [h2])]
theorem mul_le {a b A B:Int} (ha: -A≤a∧a≤A) (hb: -B≤b∧b≤B): -(A*B)≤a*b∧a*b≤A*B:=by
  have h1:(a*b).natAbs≤A.natAbs*B.natAbs:=by rw [Int.natAbs_mul];exact Nat.mul_le_mul (by omega) (by omega)
  have hA:A=(A.natAbs:Int):=by omega
  have hB:B=(B.natAbs:Int):=by omega
  have h2:A*B=((A.natAbs*B.natAbs:Nat):Int):=by rw [Int.natCast_mul,←hA,←hB]
  omega
def hasV (f:V3) (v:Int):Bool:=decide (f.1=v∨f.2.1=v∨f.2.2=v)
def common (f g:V3):Int:=(if hasV g f.1 then 1 else 0)+(if hasV g f.2.1 then 1 else 0)+(if hasV g f.2.2 then 1 else 0)
def sub (a b:V3):V3:=(a.1 - b.1,a.2.1 - b.2.1,a.2.2 - b.2.2)
def cross (a b:V3):V3:=(a.2.1*b.2.2 - a.2.2*b.2.1,a.2.2*b.1 - a.1*b.2.2,a.1*b.2.1 - a.2.1*b.1)
def dot (a b:V3):Int:=a.1*b.1+a.2.1*b.2.1+a.2.2*b.2.2
def det (a b c:V3):Int:=dot a (cross b c)
end Go.Proofs.Ytpdbimfnhglhpaa.Ms
namespace Go.Proofs.Ytpdbimfnhglhpaa.Big
end Go.Proofs.Ytpdbimfnhglhpaa.Big
namespace Go.Proofs.Ytpdbimfnhglhpaa.Ms
open Go.Proofs.Ytpdbimfnhglhpaa.Sp (mget mput mget_mput mput_keys mput_nodup mget_isSome)
set_option linter.unusedVariables false
def UOk (u:List (Int×Int)):Prop:=∀k p,mget u k=some p→0≤p∧p≤k
def findF (u:List (Int×Int)):Nat→Int→Int
  |0,i=>i
  |f+1,i=>match mget u i with
    |some p=>if p=i then i else findF u f p
    |none=>i
def find (u:List (Int×Int)) (i:Int):Int:=findF u (i.toNat+1) i
theorem findF_more {u:List (Int×Int)} (h:UOk u):∀(f:Nat) (i:Int),0≤i→i.toNat<f→findF u (f+1) i=findF u f i
  |0,i,_,hf=>by omega
  |f+1,i,h0,hf=>by
    rw [findF,findF]
    cases hm:mget u i with
    |none=>rfl
    |some p=>
      have:=h _ _ hm
      by_cases hp:p=i
      · simp [hp]
      · simp only [hp, if_false]
        exact findF_more h f p this.1 (by omega)
theorem findF_eq {u:List (Int×Int)} (h:UOk u) {i:Int} (h0:0≤i):∀(f:Nat),i.toNat<f→findF u f i=find u i:=by
  intro f hf
  unfold find
  obtain ⟨d,rfl⟩:∃d,f=i.toNat+1+d:=⟨f - (i.toNat+1),by omega⟩
  clear hf
  induction d with
  |zero=>rfl
  |succ d ih=>rw [← ih];exact findF_more h (i.toNat+1+d) i h0 (by omega)
theorem find_none {u:List (Int×Int)} {i:Int} (h:mget u i=none):find u i=i:=by unfold find;rw [findF,h]
theorem find_self {u:List (Int×Int)} {i:Int} (h:mget u i=some i):find u i=i:=by unfold find;rw [findF,h];simp
theorem find_up {u:List (Int×Int)} (h:UOk u) {i p:Int} (hm:mget u i=some p):find u i=find u p:=by
  by_cases hp:p=i
  · rw [hp]
  · have := h _ _ hm
    rw [find,findF,hm]
    simp only [hp,if_false]
    exact findF_eq h this.1 _ (by omega)
theorem find_stop {u:List (Int×Int)} {i:Int} (h:(!(mget u i).isSome)=true∨(mget u i).getD 0=i):find u i=i:=by
  cases hm:mget u i with
  |none=>exact find_none hm
  |some p=>
    rw [hm] at h
    simp at h
    exact find_self (by rw [hm,h])
theorem find_go {u:List (Int×Int)} (hU:UOk u) {i:Int} (h:¬((!(mget u i).isSome)=true∨(mget u i).getD 0=i)):0≤(mget u i).getD 0∧(mget u i).getD 0<i∧find u ((mget u i).getD 0)=find u i:=by
  cases hm:mget u i with
  |none=>rw [hm] at h;simp at h
  |some p=>
    rw [hm] at h
    simp at h
    have:=hU _ _ hm
    simp only [Option.getD_some]
    exact ⟨this.1,by omega,(find_up hU hm).symm⟩
theorem find_ind {u:List (Int×Int)} (h:UOk u) {Q:Int→Prop} (h1:∀i,0≤i→(mget u i=none∨mget u i=some i)→Q i) (h2:∀i p,mget u i=some p→0≤p→p<i→Q p→Q i):∀i,0≤i→Q i:=by
  intro i h0
  obtain ⟨n,hn⟩:∃n:Nat,i.toNat=n:=⟨_,rfl⟩
  induction n using Nat.strongRecOn generalizing i with
  |_ n ih=>
    cases hm:mget u i with
    |none=>exact h1 i h0 (.inl hm)
    |some p=>
      have:=h _ _ hm
      by_cases hp:p=i
      · exact h1 i h0 (.inr (by rw [hm,hp]))
      · exact h2 i p hm this.1 (by omega) (ih p.toNat (by omega) p this.1 rfl)
theorem find_rng {u:List (Int×Int)} (h:UOk u):∀i,0≤i→0≤find u i∧find u i≤i:=
  find_ind h (fun i h0 hm=>by
    have:find u i=i:=hm.elim find_none find_self
    omega) (fun i p hm h0 hlt ih=>by rw [find_up h hm];omega)
theorem find_root {u:List (Int×Int)} (h:UOk u):∀i,0≤i→(mget u (find u i)=none∨mget u (find u i)=some (find u i)):=
  find_ind h (fun i h0 hm=>by
    have:find u i=i:=hm.elim find_none find_self
    rw [this];exact hm) (fun i p hm h0 hlt ih=>by rw [find_up h hm];exact ih)
def joinU (u:List (Int×Int)) (i k:Int):List (Int×Int):=mput u (max (find u i) (find u k)) (min (find u i) (find u k))
theorem joinU_ok {u:List (Int×Int)} (h:UOk u) {i k:Int} (hi:0≤i) (hk:0≤k):UOk (joinU u i k):=fun a p hm=>by
  unfold joinU at hm
  rw [mget_mput] at hm
  have:=find_rng h i hi
  have:=find_rng h k hk
  split at hm
  · rename_i e;cases hm;omega
  · exact h _ _ hm
theorem find_join {u:List (Int×Int)} (h:UOk u) {i k:Int} (hi:0≤i) (hk:0≤k):∀x,0≤x→find (joinU u i k) x=if find u x=max (find u i) (find u k) then min (find u i) (find u k) else find u x:=by
  have hj:=joinU_ok h hi hk
  have hri:=find_rng h i hi
  have hrk:=find_rng h k hk
  have hgi:=find_root h i hi
  have hgk:=find_root h k hk
  generalize hM:max (find u i) (find u k)=M at*
  generalize hm:min (find u i) (find u k)=m at*
  have hget:∀x,mget (joinU u i k) x=if M=x then some m else mget u x:=fun x=>by unfold joinU;rw [mget_mput,hM,hm]
  have hmroot:mget u m=none∨mget u m=some m:=by
    rcases Int.le_total (find u i) (find u k) with hle|hle
    · have : m = find u i := by omega
      rw [this];exact hgi
    · have : m = find u k := by omega
      rw [this];exact hgk
  have hMroot:mget u M=none∨mget u M=some M:=by
    rcases Int.le_total (find u i) (find u k) with hle|hle
    · have : M = find u k := by omega
      rw [this];exact hgk
    · have : M = find u i := by omega
      rw [this];exact hgi
  have hfm:find (joinU u i k) m=m:=by
    by_cases e:M=m
    · exact find_self (by rw [hget,if_pos e])
    · rcases hmroot with h1 | h1
      · exact find_none (by rw [hget,if_neg e,h1])
      · exact find_self (by rw [hget,if_neg e,h1])
  refine find_ind h (fun x h0 hx=> ?_) (fun x p hx h0 hlt ih=> ?_)
  · have hfx : find u x = x := hx.elim find_none find_self
    rw [hfx]
    by_cases e:x=M
    · rw [if_pos e]
      have:=find_up hj (i:=x) (p:=m) (by rw [hget,if_pos e.symm])
      rw [this,hfm]
    · rw [if_neg e]
      rcases hx with h1|h1
      · exact find_none (by rw [hget,if_neg (Ne.symm e),h1])
      · exact find_self (by rw [hget,if_neg (Ne.symm e),h1])
  · have e:M≠x:=fun e=>by
      subst e
      rcases hMroot with h1|h1
      · rw [h1] at hx;cases hx
      · rw [h1] at hx;simp at hx;omega
    rw [find_up hj (i:=x) (p:=p) (by rw [hget,if_neg e,hx]),ih,find_up h hx]
inductive Conn (P:List (Int×Int)):Int→Int→Prop
  |refl (a:Int):Conn P a a
  |step {a b c w:Int}:Conn P a b→(b,w)∈P→(c,w)∈P→Conn P a c
theorem Conn.trans {P:List (Int×Int)} {a b c:Int} (h:Conn P a b) (k:Conn P b c):Conn P a c:=by
  induction k with
  |refl=>exact h
  |step _ h1 h2 ih=>exact .step ih h1 h2
theorem Conn.symm {P:List (Int×Int)} {a b:Int} (h:Conn P a b):Conn P b a:=by
  induction h with
  |refl=>exact .refl _
  |step _ h1 h2 ih=>exact (Conn.step (.refl _) h2 h1).trans ih
theorem Conn.mono {P P':List (Int×Int)} (hP:∀x∈P,x∈P') {a b:Int} (h:Conn P a b):Conn P' a b:=by
  induction h with
  |refl=>exact .refl _
  |step _ h1 h2 ih=>exact .step ih (hP _ h1) (hP _ h2)
structure UInv (P u oth:List (Int×Int)):Prop where
  ok:UOk u
  conn:∀a b,0≤a→0≤b→(find u a=find u b↔Conn P a b)
  from_:∀w k,mget oth w=some k→(k,w)∈P
  to_:∀a w,(a,w)∈P→∃k,mget oth w=some k
  pos:∀a w,(a,w)∈P→0≤a
  lim:∀a w,(a,w)∈P→a≤1099511627776
theorem UInv.nil:UInv [] [] []:=by
  refine ⟨fun k p h=>(by cases h),fun a b h0 h1=> ?_,fun w k h=>(by cases h),fun a w h=>(by cases h),fun a w h=>(by cases h),fun a w h=>(by cases h)⟩
  rw [find_none rfl,find_none rfl]
  constructor
  · rintro rfl;exact .refl _
  · intro h; cases h with
    |refl=>rfl
    |step _ h1 _=>cases h1
def ustep (s:List (Int×Int)×List (Int×Int)) (q:Int×Int):List (Int×Int)×List (Int×Int):=
  ((if (mget s.2 q.2).isSome then joinU s.1 q.1 ((mget s.2 q.2).getD 0) else s.1),mput s.2 q.2 q.1)
theorem UInv.step {P u oth:List (Int×Int)} (h:UInv P u oth) {i w:Int} (hi:0≤i) (hl:i≤1099511627776):UInv (P++[(i,w)]) (ustep (u,oth) (i,w)).1 (ustep (u,oth) (i,w)).2:=by
  unfold ustep
  simp only
  have hto:∀a w',(a,w')∈P++[(i,w)]→∃k,mget (mput oth w i) w'=some k:=fun a w' hm=>by
    rw [mget_mput]
    by_cases e:w=w'
    · exact ⟨i,by simp [e]⟩
    · rw [if_neg e]
      rcases List.mem_append.1 hm with hm|hm
      · exact h.to_ a w' hm
      · simp at hm;exact absurd hm.2.symm e
  have hfr:∀w' k,mget (mput oth w i) w'=some k→(k,w')∈P++[(i,w)]:=fun w' k hm=>by
    rw [mget_mput] at hm
    split at hm
    · rename_i e;cases hm;subst e;simp
    · exact List.mem_append_left _ (h.from_ _ _ hm)
  have hpos:∀a w',(a,w')∈P++[(i,w)]→0≤a:=fun a w' hm=>by
    rcases List.mem_append.1 hm with hm|hm
    · exact h.pos a w' hm
    · simp at hm;omega
  have hlim:∀a w',(a,w')∈P++[(i,w)]→a≤1099511627776:=fun a w' hm=>by
    rcases List.mem_append.1 hm with hm|hm
    · exact h.lim a w' hm
    · simp at hm;omega
  cases hm:mget oth w with
  |none=>
    simp only [Option.isSome_none,Bool.false_eq_true,if_false]
    refine ⟨h.ok,fun a b h0 h1=> ?_,hfr,hto,hpos,hlim⟩
    rw [h.conn a b h0 h1]
    refine ⟨fun c=>c.mono (fun x hx=>List.mem_append_left _ hx),fun c=> ?_⟩
    clear h1
    induction c with
    |refl=>exact .refl _
    |step _ h3 h4 ih=>
      rename_i b' c' w' hc
      have key:∀x,(x,w')∈P++[(i,w)]→w'=w→x=i:=fun x hx e=>by
        rcases List.mem_append.1 hx with hx1|hx1
        · obtain ⟨k, hk⟩ := h.to_ _ _ hx1
          rw [e,hm] at hk;cases hk
        · simp at hx1;exact hx1.1
      by_cases e:w'=w
      · rw [key _ h4 e,←key _ h3 e];exact ih
      · have side:∀x,(x,w')∈P++[(i,w)]→(x,w')∈P:=fun x hx=>by
          rcases List.mem_append.1 hx with hx|hx
          · exact hx
          · simp at hx;exact absurd hx.2 e
        exact .step ih (side _ h3) (side _ h4)
  |some k=>
    have hkP:=h.from_ _ _ hm
    have hk:=h.pos _ _ hkP
    simp only [Option.isSome_some,if_true,Option.getD_some]
    refine ⟨joinU_ok h.ok hi hk,fun a b h0 h1=> ?_,hfr,hto,hpos,hlim⟩
    have hP':∀x∈P,x∈P++[(i,w)]:=fun x hx=>List.mem_append_left _ hx
    have hik:Conn (P++[(i,w)]) i k:= .step (.refl _) (by simp) (hP' _ hkP)
    rw [find_join h.ok hi hk a h0,find_join h.ok hi hk b h1]
    have hC:∀x y,0≤x→0≤y→find u x=find u y→Conn (P++[(i,w)]) x y:=fun x y hx hy e=>((h.conn x y hx hy).1 e).mono hP'
    constructor
    · intro e
      have hin:∀x,0≤x→find u x=max (find u i) (find u k)→Conn (P++[(i,w)]) x i:=fun x hx e=>by
        rcases Int.le_total (find u i) (find u k) with hle|hle
        · exact (hC x k hx hk (by omega)).trans hik.symm
        · exact hC x i hx hi (by omega)
      have hin2:∀x,0≤x→find u x=min (find u i) (find u k)→Conn (P++[(i,w)]) x i:=fun x hx e=>by
        rcases Int.le_total (find u i) (find u k) with hle|hle
        · exact hC x i hx hi (by omega)
        · exact (hC x k hx hk (by omega)).trans hik.symm
      split at e
      · rename_i e1
        split at e
        · rename_i e2;exact (hin a h0 e1).trans (hin b h1 e2).symm
        · exact (hin a h0 e1).trans (hin2 b h1 e.symm).symm
      · split at e
        · rename_i e2;exact (hin2 a h0 e).trans (hin b h1 e2).symm
        · exact hC a b h0 h1 e
    · intro c
      -- the new classes hold each step
      have hstep:∀x y w',(x,w')∈P++[(i,w)]→(y,w')∈P++[(i,w)]→(find u x=find u y∨((find u x=find u i∨find u x=find u k)∧(find u y=find u i∨find u y=find u k))):=fun x y w' hx hy=>by
        by_cases e:w'=w
        · right
          have key:∀z,(z,w')∈P++[(i,w)]→(find u z=find u i∨find u z=find u k):=fun z hz=>by
            rcases List.mem_append.1 hz with hz1|hz1
            · right; rw [e] at hz1
              exact (h.conn z k (h.pos _ _ hz1) hk).2 (.step (.refl _) hz1 hkP)
            · simp at hz1;left;rw [hz1.1]
          exact ⟨key x hx,key y hy⟩
        · left
          have side:∀z,(z,w')∈P++[(i,w)]→(z,w')∈P:=fun z hz=>by
            rcases List.mem_append.1 hz with hz|hz
            · exact hz
            · simp at hz;exact absurd hz.2 e
          exact (h.conn x y (h.pos _ _ (side x hx)) (h.pos _ _ (side y hy))).2 (.step (.refl _) (side x hx) (side y hy))
      clear h1
      induction c with
      |refl=>rfl
      |step _ h3 h4 ih=>
        rw [ih]
        have:=hstep _ _ _ h3 h4
        split <;> split <;> omega
def pairs (F:List V3) (v:Int) (l:List Int):List (Int×Int):=
  l.flatMap fun i=>([(F.getD i.toNat (0,0,0)).1,(F.getD i.toNat (0,0,0)).2.1,(F.getD i.toNat (0,0,0)).2.2].filter (fun w=>w≠v)).map (fun w=>(i,w))
def star (F:List V3) (v:Int) (l:List Int):List (Int×Int)×List (Int×Int):=(pairs F v l).foldl ustep ([],[])
theorem UInv.foldl:∀{Q P u oth:List (Int×Int)},UInv P u oth→(∀q∈Q,0≤q.1∧q.1≤1099511627776)→UInv (P++Q) (Q.foldl ustep (u,oth)).1 (Q.foldl ustep (u,oth)).2
  |[],P,u,oth,h,_=>by simpa using h
  |q :: Q,P,u,oth,h,hq=>by
    have:=UInv.foldl (Q:=Q) (h.step (i:=q.1) (w:=q.2) (hq q (by simp)).1 (hq q (by simp)).2) (fun x hx=>hq x (List.mem_cons_of_mem _ hx))
    rw [List.append_assoc] at this
    exact this
theorem pairs_pos {F:List V3} {v:Int} {l:List Int} (hl:∀i∈l,0≤i∧i≤1099511627776):∀q∈pairs F v l,0≤q.1∧q.1≤1099511627776:=fun q hq=>by
  unfold pairs at hq
  simp only [List.mem_flatMap,List.mem_map] at hq
  obtain ⟨i,hi,w,hw,rfl⟩:=hq
  exact hl i hi
theorem star_inv {F:List V3} {v:Int} {l:List Int} (hl:∀i∈l,0≤i∧i≤1099511627776):UInv (pairs F v l) (star F v l).1 (star F v l).2:=by
  have:=UInv.foldl (Q:=pairs F v l) UInv.nil (pairs_pos hl)
  exact this
def starB (F:List V3) (v:Int) (l:List Int):Bool:=l.all fun i=>decide (find (star F v l).1 i=find (star F v l).1 (l.getD 0 0))
theorem starB_iff {F:List V3} {v:Int} {l:List Int} (hl:∀i∈l,0≤i∧i≤1099511627776):starB F v l=true↔∀i∈l,∀j∈l,Conn (pairs F v l) i j:=by
  have hI:=star_inv (F:=F) (v:=v) hl
  unfold starB
  rw [List.all_eq_true]
  cases l with
  |nil=>simp
  |cons a t=>
    have ha:=(hl a (by simp)).1
    simp only [decide_eq_true_eq]
    constructor
    · intro h i hi j hj
      have h1:=h i hi
      have h2:=h j hj
      exact (hI.conn i j (hl i hi).1 (hl j hj).1).1 (h1.trans h2.symm)
    · intro h i hi
      exact (hI.conn i _ (hl i hi).1 (by simpa using ha)).2 (by simpa using h i hi a (by simp))
def edges3 (f:V3):List (Int×Int):=[(f.1,f.2.1),(f.2.1,f.2.2),(f.2.2,f.1)]
def all (F:List V3):List (Int×Int):=F.flatMap edges3
theorem all_snoc (F:List V3) (f:V3):all (F++[f])=all F++edges3 f:=by simp [all]
def srcsF:Nat→List V3→List (Int×Int)
  |_,[]=>[]
  |i,f :: l=>(f.1,(i:Int)) :: (f.2.1,(i:Int)) :: (f.2.2,(i:Int)) :: srcsF (i+1) l
def srcs (F:List V3):List (Int×Int):=srcsF 0 F
theorem srcsF_snoc:∀(F:List V3) (i:Nat) (f:V3),srcsF i (F++[f])=srcsF i F++[(f.1,((i+F.length:Nat):Int)),(f.2.1,((i+F.length:Nat):Int)),(f.2.2,((i+F.length:Nat):Int))]
  |[],i,f=>by simp [srcsF]
  |g :: l,i,f=>by
    have:=srcsF_snoc l (i+1) f
    simp only [List.cons_append,srcsF,this,List.length_cons]
    rw [show i+1+l.length=i+(l.length+1) by omega]
theorem srcs_snoc (F:List V3) (f:V3):srcs (F++[f])=srcs F++[(f.1,(F.length:Int)),(f.2.1,(F.length:Int)),(f.2.2,(F.length:Int))]:=by
  unfold srcs;rw [srcsF_snoc];simp
def sel (S:List (Int×Int)) (v:Int):List Int:=(S.filter (fun q=>q.1=v)).map (·.2)
def at_ (F:List V3) (v:Int):List Int:=sel (srcs F) v
theorem sel_snoc (S:List (Int×Int)) (w v i:Int):sel (S++[(w,i)]) v=if w=v then sel S v++[i] else sel S v:=by
  unfold sel
  rw [List.filter_append,List.map_append]
  by_cases h:w=v <;> simp [h]
theorem srcsF_mem:∀{F:List V3} {k:Nat} {q:Int×Int},q∈srcsF k F→(k:Int)≤q.2∧q.2<((k+F.length:Nat):Int)
  |[],k,q,h=>by cases h
  |f :: l,k,q,h=>by
    simp only [srcsF,List.mem_cons] at h
    simp only [List.length_cons]
    rcases h with rfl|rfl|rfl|h
    · exact ⟨Int.le_refl _,by simp only;omega⟩
    · exact ⟨Int.le_refl _,by simp only;omega⟩
    · exact ⟨Int.le_refl _,by simp only;omega⟩
    · have:=srcsF_mem h;omega
theorem at_mem {F:List V3} {v i:Int} (h:i∈at_ F v):0≤i∧i<(F.length:Int):=by
  unfold at_ sel at h
  simp only [List.mem_map,List.mem_filter] at h
  obtain ⟨q,⟨hq,_⟩,rfl⟩:=h
  have:=srcsF_mem hq
  omega
theorem sel_le' (S:List (Int×Int)) (v:Int):(sel S v).length≤S.length:=by unfold sel;rw [List.length_map];exact List.length_filter_le _ _
theorem srcsF_len:∀(F:List V3) (i:Nat),(srcsF i F).length=3*F.length
  |[],_=>rfl
  |f :: l,i=>by simp only [srcsF,List.length_cons,srcsF_len l (i+1)];omega
theorem srcs_len (F:List V3):(srcs F).length=3*F.length:=srcsF_len F 0
theorem at_len (F:List V3) (v:Int):(at_ F v).length≤3*F.length:=by
  have:=sel_le' (srcs F) v
  rw [srcs_len] at this;exact this
def check (V F:List V3):Int:=if form V F≠0 then form V F else if (all F).Nodup then (if (List.range V.length).all (fun v=>starB F v (at_ F v)) then 0 else 11) else 7
open Go.Proofs.Ytpdbimfnhglhpaa.Sp (RW ov)
def Seen (m:List ((Int×Int)×Bool)) (A:List (Int×Int)):Prop:=∀e,(mget m e).getD false=decide (e∈A)
theorem Seen.nil:Seen [] []:=fun e=>rfl
theorem Seen.step {m:List ((Int×Int)×Bool)} {A:List (Int×Int)} (h:Seen m A) (a:Int×Int):Seen (mput m a true) (A++[a]):=fun e=>by
  rw [mget_mput]
  by_cases hc:a=e
  · subst hc;simp
  · have hc' : ¬ e = a := fun x => hc x.symm
    rw [if_neg hc,h e];simp [hc']
theorem Seen.no {m:List ((Int×Int)×Bool)} {A:List (Int×Int)} (h:Seen m A) {e:Int×Int} (hf:(mget m e).getD false=false):e ∉ A:=fun hm=>by
  have:=h e
  rw [hf] at this
  simp [hm] at this
structure RowsAre (zs:List (RW Int)) (n:Nat) (S:List (Int×Int)):Prop where
  len:zs.length=n
  rows:∀v:Nat,v<n→(zs.getD v (none,0,[])).2.2=sel S (v:Int)
theorem RowsAre.nil (n:Nat):RowsAre (List.replicate n (none,0,[])) n []:=⟨by simp,fun v h=>by simp [List.getD,h,sel]⟩
theorem sel_le (S:List (Int×Int)) (v:Int):(sel S v).length≤S.length:=by unfold sel;rw [List.length_map];exact List.length_filter_le _ _
theorem RowsAre.at {zs:List (RW Int)} {n:Nat} {S:List (Int×Int)} (h:RowsAre zs n S) {j:Nat} {p:Option Go.Addr} {c:Nat} {l:List Int} (hz:zs[j]? =some (p,c,l)):l=sel S (j:Int)∧l.length≤S.length:=by
  have hj:=(List.getElem?_eq_some_iff.1 hz).1
  have:=h.rows j (by rw [← h.len];exact hj)
  simp only [List.getD,hz,Option.getD_some] at this
  exact ⟨this,by rw [this];exact sel_le _ _⟩
theorem RowsAre.step {zs:List (RW Int)} {n:Nat} {S:List (Int×Int)} (h:RowsAre zs n S) {w i:Int} (hw:0≤w) {p p':Option Go.Addr} {c c':Nat} {l:List Int} (hz:zs[w.toNat]? =some (p,c,l)):RowsAre (zs.set w.toNat (p',c',l++[i])) n (S++[(w,i)]):=by
  have hj:=(List.getElem?_eq_some_iff.1 hz).1
  refine ⟨by rw [List.length_set];exact h.len,fun v hv=> ?_⟩
  rw [sel_snoc]
  by_cases e:w=(v:Int)
  · have e' : w.toNat = v := by omega
    rw [if_pos e]
    subst e'
    simp only [List.getD,List.getElem?_set_self hj,Option.getD_some]
    rw [(h.at hz).1,show ((w.toNat:Nat):Int)=w by omega]
  · have e' : w.toNat ≠ v := by omega
    rw [if_neg e]
    simp only [List.getD,List.getElem?_set_ne e']
    exact h.rows v hv
theorem RowsAre.lists {zs:List (RW Int)} {n:Nat} {F:List V3} (h:RowsAre zs n (srcs F)):zs.map (fun z:RW Int=>z.2.2)=(List.range n).map (fun v:Nat=>at_ F (v:Int)):=by
  refine ext_getD [] (by simp [h.len]) fun j hj=> ?_
  have hj':j<zs.length:=by simpa using hj
  have hn:j<n:=by rw [← h.len];exact hj'
  have:=h.rows j hn
  simp only [List.getD,List.getElem?_map,List.getElem?_range hn,Option.map_some,Option.getD_some,List.getElem?_eq_getElem hj'] at this ⊢
  exact this
theorem rows_get {F:List V3} {n v:Nat} (h:v<n):((List.range n).map (fun v:Nat=>at_ F (v:Int))).getD v []=at_ F (v:Int):=by
  simp [List.getD,List.getElem?_range h]
theorem take_all {F:List V3} {i:Nat} (h:i<F.length):all (F.take (i+1))=all (F.take i)++[((F.getD i (0,0,0)).1,(F.getD i (0,0,0)).2.1)]++[((F.getD i (0,0,0)).2.1,(F.getD i (0,0,0)).2.2)]++[((F.getD i (0,0,0)).2.2,(F.getD i (0,0,0)).1)]:=by
  rw [take_snoc (0,0,0) h,all_snoc];simp [edges3]
theorem take_srcs {F:List V3} {i:Nat} (h:i<F.length):srcs (F.take (i+1))=srcs (F.take i)++[((F.getD i (0,0,0)).1,(i:Int))]++[((F.getD i (0,0,0)).2.1,(i:Int))]++[((F.getD i (0,0,0)).2.2,(i:Int))]:=by
  rw [take_snoc (0,0,0) h,srcs_snoc,List.length_take,show min i F.length=i by omega];simp
theorem all_prefix {F:List V3} (i:Nat):∃B,all F=all (F.take i)++B:=⟨all (F.drop i),by unfold all;rw [← List.flatMap_append,List.take_append_drop]⟩
theorem check_bad {V F:List V3} (h:form V F≠0):check V F=form V F:=by unfold check;rw [if_pos h]
theorem check_dup {V F:List V3} (h:form V F=0) (h2:¬(all F).Nodup):check V F=7:=by unfold check;rw [if_neg (by simpa using h),if_neg h2]
theorem not_nodup {A:List (Int×Int)} {e:Int×Int} {B:List (Int×Int)} (h:e∈A):¬(A++e :: B).Nodup:=fun hn=>by
  have:=(List.nodup_append.1 hn).2.2 e h e (by simp)
  exact this rfl
theorem nodup_step {A:List (Int×Int)} {e:Int×Int} (h:A.Nodup) (h2:e ∉ A):(A++[e]).Nodup:=List.nodup_append.2 ⟨h,by simp,fun a ha b hb=>by simp at hb;subst hb;exact fun x=>h2 (x ▸ ha)⟩
theorem dup_at {V F:List V3} (hf:form V F=0) {i:Nat} (hi:i<F.length) {A B:List (Int×Int)} {e:Int×Int} (hA:all (F.take (i+1))=A++e :: B) {m:List ((Int×Int)×Bool)} (hs:Seen m A) (h:(mget m e).getD false=true):check V F=7:=by
  refine check_dup hf ?_
  obtain ⟨C,hC⟩:=all_prefix (F:=F) (i+1)
  rw [hC,hA,List.append_assoc]
  refine not_nodup ?_
  have:=hs e
  rw [h] at this
  simpa using this.symm
theorem check_star {V F:List V3} (hf:form V F=0) (hn:(all F).Nodup) {v:Nat} (hv:v<V.length) (h:starB F v (at_ F v)=false):check V F=11:=by
  unfold check
  rw [if_neg (by simpa using hf),if_pos hn,if_neg]
  intro ha
  rw [List.all_eq_true] at ha
  have:=ha v (List.mem_range.2 hv)
  rw [h] at this;cases this
theorem check_ok {V F:List V3} (hf:form V F=0) (hn:(all F).Nodup) (h:∀v,v<V.length→starB F (v:Int) (at_ F v)=true):check V F=0:=by
  unfold check
  rw [if_neg (by simpa using hf),if_pos hn,if_pos]
  rw [List.all_eq_true]
  intro v hv
  exact h v (List.mem_range.1 hv)
def mrk (v i w:Int):List (Int×Int):=if w=v then [] else [(i,w)]
theorem pairs_snoc {F:List V3} {v:Int} (l:List Int) (i:Int):pairs F v (l++[i])=pairs F v l++mrk v i (F.getD i.toNat (0,0,0)).1++mrk v i (F.getD i.toNat (0,0,0)).2.1++mrk v i (F.getD i.toNat (0,0,0)).2.2:=by
  unfold pairs mrk
  simp only [List.flatMap_append,List.flatMap_cons,List.flatMap_nil,List.append_nil,List.filter_cons,List.filter_nil]
  generalize F.getD i.toNat (0,0,0)=f
  by_cases h1:f.1=v <;> by_cases h2:f.2.1=v <;> by_cases h3:f.2.2=v <;> simp [h1,h2,h3]
theorem UInv.skip {P u oth:List (Int×Int)} (h:UInv P u oth) {v i w:Int} (e:w=v):UInv (P++mrk v i w) u oth:=by unfold mrk;rw [if_pos e,List.append_nil];exact h
theorem UInv.hit {P u oth:List (Int×Int)} (h:UInv P u oth) {v i w:Int} (hi:0≤i∧i≤1099511627776) (e:¬w=v) (hs:(mget oth w).isSome=true):UInv (P++mrk v i w) (joinU u i ((mget oth w).getD 0)) (mput oth w i):=by
  unfold mrk;rw [if_neg e]
  have:=h.step (i:=i) (w:=w) hi.1 hi.2
  unfold ustep at this
  simpa [hs] using this
theorem UInv.miss {P u oth:List (Int×Int)} (h:UInv P u oth) {v i w:Int} (hi:0≤i∧i≤1099511627776) (e:¬w=v) (hs:(mget oth w).isSome=false):UInv (P++mrk v i w) u (mput oth w i):=by
  unfold mrk;rw [if_neg e]
  have:=h.step (i:=i) (w:=w) hi.1 hi.2
  unfold ustep at this
  simpa [hs] using this
theorem UInv.kpos {P u oth:List (Int×Int)} (h:UInv P u oth) {w:Int} (hs:(mget oth w).isSome=true):0≤(mget oth w).getD 0∧(mget oth w).getD 0≤1099511627776:=by
  cases hm:mget oth w with
  |none=>rw [hm] at hs;cases hs
  |some k=>exact ⟨h.pos _ _ (h.from_ _ _ hm),h.lim _ _ (h.from_ _ _ hm)⟩
theorem UInv.star_true {F:List V3} {v:Int} {u oth:List (Int×Int)} (h:UInv (pairs F v (at_ F v)) u oth) (hF:F.length≤1024) (ha:∀j,j<(at_ F v).length→find u ((at_ F v).getD j 0)=find u ((at_ F v).getD 0 0)):starB F v (at_ F v)=true:=by
  have hl:∀i∈at_ F v,0≤i∧i≤1099511627776:=fun i hi=>⟨(at_mem hi).1,by have:=(at_mem hi).2;omega⟩
  refine (starB_iff hl).2 fun i hi j hj=> ?_
  obtain ⟨a,ha1,rfl⟩:=mem_getD 0 hi
  obtain ⟨b,hb1,rfl⟩:=mem_getD 0 hj
  exact (h.conn _ _ (hl _ hi).1 (hl _ hj).1).1 ((ha a ha1).trans (ha b hb1).symm)
theorem UInv.star_false {F:List V3} {v:Int} {u oth:List (Int×Int)} (h:UInv (pairs F v (at_ F v)) u oth) (hF:F.length≤1024) {j:Nat} (hj:j<(at_ F v).length) (ha:¬find u ((at_ F v).getD j 0)=find u ((at_ F v).getD 0 0)):starB F v (at_ F v)=false:=by
  have hl:∀i∈at_ F v,0≤i∧i≤1099511627776:=fun i hi=>⟨(at_mem hi).1,by have:=(at_mem hi).2;omega⟩
  cases hs:starB F v (at_ F v) with
  |false=>rfl
  |true=>
    have h1:=getD_mem 0 hj
    have h0:=getD_mem (l:=at_ F v) (i:=0) 0 (by omega)
    exact absurd ((h.conn _ _ (hl _ h1).1 (hl _ h0).1).2 ((starB_iff hl).1 hs _ h1 _ h0)) ha
theorem at_getD {F:List V3} {v:Int} {j:Nat} (h:j<(at_ F v).length):0≤(at_ F v).getD j 0∧(at_ F v).getD j 0<(F.length:Int):=at_mem (getD_mem 0 h)
end Go.Proofs.Ytpdbimfnhglhpaa.Ms
namespace Go.Proofs.Ytpdbimfnhglhpaa.Ms
open Go.Proofs.Ytpdbimfnhglhpaa.Sp (mget mput mget_mput mput_keys mput_nodup mget_isSome)
set_option linter.unusedVariables false
section
variable {α : Type} [DecidableEq α]
theorem len_of_sub:∀{K l:List α},K.Nodup→(∀a∈K,a∈l)→K.length≤l.length
  |[],_,_,_=>by simp
  |a :: K,l,hn,hs=>by
    have ha:=hs a (by simp)
    have hn':=List.nodup_cons.1 hn
    have:=len_of_sub (K:=K) (l:=l.erase a) hn'.2 (fun b hb=>(List.mem_erase_of_ne (fun e=>hn'.1 (by rw [← e];exact hb))).2 (hs b (List.mem_cons_of_mem _ hb)))
    rw [List.length_erase_of_mem ha] at this
    have:=List.length_pos_of_mem ha
    simp only [List.length_cons];omega
theorem sub_iff_len {K l:List α} (hK:K.Nodup) (hl:l.Nodup) (hs:∀a∈K,a∈l):(∀b∈l,b∈K)↔¬K.length<l.length:=by
  constructor
  · intro h
    have:=len_of_sub hl h;omega
  · intro h b hb
    refine Decidable.byContradiction fun hn=>h ?_
    have:=len_of_sub (K:=b :: K) (l:=l) (List.nodup_cons.2 ⟨hn,hK⟩) (fun a ha=>by
      rcases List.mem_cons.1 ha with rfl|ha
      · exact hb
      · exact hs a ha)
    simp only [List.length_cons] at this;omega
end
inductive Reach (near:Int→Int→Prop) (l:List Int):Int→Int→Prop
  |refl (a:Int):Reach near l a a
  |step {a b c:Int}:Reach near l a b→c∈l→near b c→Reach near l a c
structure Marks (m:List (Int×Bool)) (K:List Int):Prop where
  get:∀e,(mget m e).getD false=decide (e∈K)
  len:m.length=K.length
  nodup:K.Nodup
  keys:m.map (·.1)=K
theorem Marks.nil:Marks [] []:=⟨fun e=>rfl,rfl,by simp,rfl⟩
theorem Marks.step {m:List (Int×Bool)} {K:List Int} (h:Marks m K) {a:Int} (ha:a ∉ K):Marks (mput m a true) (K++[a]):=by
  have hk:(mput m a true).map (·.1)=K++[a]:=by rw [mput_keys,h.keys,if_neg ha]
  refine ⟨fun e=> ?_,by rw [← List.length_map (f:=(·.1)),hk],List.nodup_append.2 ⟨h.nodup,by simp,fun x hx y hy=>by simp at hy;subst hy;exact fun e=>ha (e ▸ hx)⟩,hk⟩
  rw [mget_mput]
  by_cases hc:a=e
  · subst hc;simp
  · have hc' : ¬ e = a := fun x => hc x.symm
    rw [if_neg hc,h.get e];simp [hc']
theorem Marks.no {m:List (Int×Bool)} {K:List Int} (h:Marks m K) {e:Int} (hf:(mget m e).getD false=false):e ∉ K:=fun hm=>by
  have:=h.get e
  rw [hf] at this;simp [hm] at this
theorem Marks.yes {m:List (Int×Bool)} {K:List Int} (h:Marks m K) {e:Int} (hf:(mget m e).getD false=true):e∈K:=by
  have:=h.get e
  rw [hf] at this;simpa using this.symm
structure SpI (near:Int→Int→Prop) (l K td:List Int):Prop where
  sub:∀a∈K,a∈l
  tsub:∀a∈td,a∈l
  reach:∀a∈K,Reach near l (l.getD 0 0) a
  treach:∀a∈td,Reach near l (l.getD 0 0) a
  closed:∀a∈K,∀b∈l,near a b→b∈K∨b∈td
  first:l.getD 0 0∈K∨l.getD 0 0∈td
theorem SpI.start {near:Int→Int→Prop} {l:List Int} (h:0<l.length):SpI near l [] (l.take 1):=by
  cases l with
  |nil=>simp at h
  |cons a t=>exact ⟨fun b hb=>(by cases hb),fun b hb=>by simp at hb;subst hb;simp,fun b hb=>(by cases hb),fun b hb=>by simp at hb;subst hb;exact .refl _,fun b hb=>(by cases hb),.inr (by simp)⟩
theorem SpI.skip {near:Int→Int→Prop} {l K td:List Int} (h:SpI near l K td) (h0:0<td.length) (hm:td.getD 0 0∈K):SpI near l K (td.drop 1):=by
  cases td with
  |nil=>simp at h0
  |cons a t=>
    simp only [List.getD_cons_zero,List.drop_succ_cons,List.drop_zero] at*
    refine ⟨h.sub,fun b hb=>h.tsub b (List.mem_cons_of_mem _ hb),h.reach,fun b hb=>h.treach b (List.mem_cons_of_mem _ hb),fun b hb c hc hn=> ?_,?_⟩
    · rcases h.closed b hb c hc hn with h1 | h1
      · exact .inl h1
      · rcases List.mem_cons.1 h1 with rfl | h1
        · exact .inl hm
        · exact .inr h1
    · rcases h.first with h1 | h1
      · exact .inl h1
      · rcases List.mem_cons.1 h1 with e | h1
        · exact .inl (by rw [e];exact hm)
        · exact .inr h1
def pushed (near:Int→Int→Bool) (K:List Int) (a:Int) (l:List Int):List Int:=l.filter (fun b=> !(decide (b∈K))&&near a b)
theorem SpI.round {near:Int→Int→Bool} {l K td:List Int} (h:SpI (fun a b=>near a b=true) l K td) (h0:0<td.length):SpI (fun a b=>near a b=true) l (K++[td.getD 0 0]) (td.drop 1++pushed near (K++[td.getD 0 0]) (td.getD 0 0) l):=by
  cases td with
  |nil=>simp at h0
  |cons a t=>
    simp only [List.getD_cons_zero,List.drop_succ_cons,List.drop_zero] at*
    have ha:=h.tsub a (by simp)
    have hra:=h.treach a (by simp)
    refine ⟨fun b hb=> ?_,fun b hb=> ?_,fun b hb=> ?_,fun b hb=> ?_,fun b hb c hc hn=> ?_,?_⟩
    · rcases List.mem_append.1 hb with h1 | h1
      · exact h.sub b h1
      · simp at h1;subst h1;exact ha
    · rcases List.mem_append.1 hb with h1 | h1
      · exact h.tsub b (List.mem_cons_of_mem _ h1)
      · exact (List.mem_filter.1 h1).1
    · rcases List.mem_append.1 hb with h1 | h1
      · exact h.reach b h1
      · simp at h1;subst h1;exact hra
    · rcases List.mem_append.1 hb with h1 | h1
      · exact h.treach b (List.mem_cons_of_mem _ h1)
      · have h2 := List.mem_filter.1 h1
        simp only [Bool.and_eq_true] at h2
        exact .step hra h2.1 h2.2.2
    · by_cases hcK : c ∈ K ++ [a]
      · exact .inl hcK
      · refine .inr ?_
        rcases List.mem_append.1 hb with h1|h1
        · rcases h.closed b h1 c hc hn with h2 | h2
          · exact absurd (List.mem_append_left _ h2) hcK
          · rcases List.mem_cons.1 h2 with rfl | h2
            · exact absurd (by simp) hcK
            · exact List.mem_append_left _ h2
        · simp at h1; subst h1
          refine List.mem_append_right _ (List.mem_filter.2 ⟨hc,?_⟩)
          simp only [Bool.and_eq_true,Bool.not_eq_true',decide_eq_false_iff_not]
          exact ⟨hcK,hn⟩
    · rcases h.first with h1 | h1
      · exact .inl (List.mem_append_left _ h1)
      · rcases List.mem_cons.1 h1 with e | h1
        · exact .inl (by rw [e];simp)
        · exact .inr (List.mem_append_left _ h1)
structure Spread (near:Int→Int→Prop) (l K:List Int):Prop where
  nodup:K.Nodup
  sub:∀a∈K,a∈l
  all:∀a,a∈K↔Reach near l (l.getD 0 0) a
theorem SpI.fin {near:Int→Int→Prop} {l K:List Int} (h:SpI near l K []) (hn:K.Nodup):Spread near l K:=by
  refine ⟨hn,h.sub,fun a=>⟨h.reach a,fun hr=> ?_⟩⟩
  induction hr with
  |refl=>simpa using h.first
  |step _ hc hn ih=>simpa using h.closed _ ih _ hc hn
theorem at_take {F:List V3} {v:Int} {i:Nat} (h:i<F.length) (hd:deg (F.getD i (0,0,0))=false):at_ (F.take (i+1)) v=if hasV (F.getD i (0,0,0)) v=true then at_ (F.take i) v++[(i:Int)] else at_ (F.take i) v:=by
  unfold at_
  rw [take_srcs h,sel_snoc,sel_snoc,sel_snoc]
  generalize F.getD i (0,0,0)=f at*
  simp only [deg,decide_eq_false_iff_not,hasV,decide_eq_true_eq] at*
  by_cases h1:f.1=v <;> by_cases h2:f.2.1=v <;> by_cases h3:f.2.2=v <;> simp [h1,h2,h3] <;> omega
theorem at_face {F:List V3} (hd:∀f∈F,deg f=false) {v:Int}:∀{k:Nat},k≤F.length→(∀i∈at_ (F.take k) v,0≤i∧i<(k:Int)∧hasV (F.getD i.toNat (0,0,0)) v=true)∧(at_ (F.take k) v).Nodup∧(∀i:Nat,i<k→hasV (F.getD i (0,0,0)) v=true→(i:Int)∈at_ (F.take k) v)
  |0,_=>by simp [at_,srcs,srcsF,sel]
  |k+1,hk=>by
    obtain ⟨h1,h2,h3⟩:=at_face hd (v:=v) (k:=k) (by omega)
    rw [at_take (by omega) (hd _ (getD_mem _ (by omega)))]
    by_cases hv:hasV (F.getD k (0,0,0)) v=true
    · rw [if_pos hv]
      refine ⟨fun i hi=> ?_,List.nodup_append.2 ⟨h2,by simp,fun x hx y hy=>by simp at hy;subst hy;have:=h1 x hx;omega⟩,fun i hi hh=> ?_⟩
      · rcases List.mem_append.1 hi with hi | hi
        · have:=h1 i hi;exact ⟨this.1,by omega,this.2.2⟩
        · simp at hi;subst hi;exact ⟨by omega,by omega,by simpa using hv⟩
      · by_cases e : i = k
        · subst e;simp
        · exact List.mem_append_left _ (h3 i (by omega) hh)
    · rw [if_neg hv]
      refine ⟨fun i hi=>by have:=h1 i hi;exact ⟨this.1,by omega,this.2.2⟩,h2,fun i hi hh=> ?_⟩
      by_cases e:i=k
      · subst e;exact absurd hh hv
      · exact h3 i (by omega) hh
theorem at_all {F:List V3} (hd:∀f∈F,deg f=false) {v:Int}:(∀i∈at_ F v,0≤i∧i<(F.length:Int)∧hasV (F.getD i.toNat (0,0,0)) v=true)∧(at_ F v).Nodup∧(∀i:Nat,i<F.length→hasV (F.getD i (0,0,0)) v=true→(i:Int)∈at_ F v):=by
  have:=at_face hd (v:=v) (k:=F.length) (Nat.le_refl _)
  rwa [List.take_length] at this
def nearF (F:List V3) (a b:Int):Bool:=decide (2≤common (F.getD a.toNat (0,0,0)) (F.getD b.toNat (0,0,0)))
theorem mem_pairs {F:List V3} {v:Int} {l:List Int} {i w:Int}:(i,w)∈pairs F v l↔i∈l∧hasV (F.getD i.toNat (0,0,0)) w=true∧w≠v:=by
  unfold pairs
  simp only [List.mem_flatMap,List.mem_map,List.mem_filter,List.mem_cons,List.not_mem_nil,or_false,decide_eq_true_eq,Prod.mk.injEq,hasV]
  constructor
  · rintro ⟨j, hj, w', ⟨h1, h2⟩, rfl, rfl⟩
    exact ⟨hj,by rcases h1 with h|h|h <;> simp [h],h2⟩
  · rintro ⟨h1, h2, h3⟩
    exact ⟨i,h1,w,⟨by rcases h2 with h|h|h;exact .inl h.symm;exact .inr (.inl h.symm);exact .inr (.inr h.symm),h3⟩,rfl,rfl⟩
end Go.Proofs.Ytpdbimfnhglhpaa.Ms
namespace Go.Proofs.Ytpdbimfnhglhpaa.Ms
theorem all_len (F:List V3):(all F).length=3*F.length:=by
  unfold all;induction F with
  |nil=>rfl
  |cons f l ih=>simp only [List.flatMap_cons,List.length_append,ih,edges3,List.length_cons,List.length_nil];omega
end Go.Proofs.Ytpdbimfnhglhpaa.Ms
namespace Go.Proofs.Ytpdbimfnhglhpaa.Ms
open Go.Proofs.Ytpdbimfnhglhpaa.Sp (mget mput mget_mput mput_keys mput_nodup mget_isSome)
set_option linter.unusedVariables false
def allM (F:List V3):List ((Int×Int)×Bool):=(all F).foldl (fun m e=>mput m e true) []
theorem foldM_snoc {A:List (Int×Int)} {e:Int×Int}:(A++[e]).foldl (fun m e=>mput m e true) ([]:List ((Int×Int)×Bool))=mput (A.foldl (fun m e=>mput m e true) []) e true:=by rw [List.foldl_append];rfl
theorem allM_take {F:List V3} {i:Nat} (h:i<F.length):allM (F.take (i+1))=mput (mput (mput (allM (F.take i)) ((F.getD i (0,0,0)).1,(F.getD i (0,0,0)).2.1) true) ((F.getD i (0,0,0)).2.1,(F.getD i (0,0,0)).2.2) true) ((F.getD i (0,0,0)).2.2,(F.getD i (0,0,0)).1) true:=by
  unfold allM;rw [take_all h,foldM_snoc,foldM_snoc,foldM_snoc]
theorem mem_mput {κ ν:Type} [DecidableEq κ]:∀{m:List (κ×ν)} {a:κ} {v:ν} {p:κ×ν},p∈mput m a v→p=(a,v)∨p∈m
  |[],a,v,p,h=>by simp [mput] at h;exact .inl h
  |q :: m,a,v,p,h=>by
    simp only [mput] at h
    split at h
    · rcases List.mem_cons.1 h with h | h
      · exact .inl h
      · exact .inr (List.mem_cons_of_mem _ h)
    · rcases List.mem_cons.1 h with h | h
      · exact .inr (by rw [h];simp)
      · exact (mem_mput h).imp id (List.mem_cons_of_mem _)
theorem foldM_mem:∀{A:List (Int×Int)} {m:List ((Int×Int)×Bool)},(∀p∈m,p.2=true)→∀p∈A.foldl (fun m e=>mput m e true) m,p.2=true∧(p∈m∨p.1∈A)
  |[],m,h,p,hp=>⟨h p hp,.inl hp⟩
  |a :: A,m,h,p,hp=>by
    simp only [List.foldl_cons] at hp
    have:=foldM_mem (A:=A) (m:=mput m a true) (fun q hq=>by
      rcases mem_mput hq with e|e
      · rw [e]
      · exact h q e) p hp
    refine ⟨this.1,?_⟩
    rcases this.2 with h1|h1
    · rcases mem_mput h1 with e | e
      · right;rw [e];simp
      · exact .inl e
    · exact .inr (List.mem_cons_of_mem _ h1)
theorem foldM_seen:∀{A B:List (Int×Int)} {m:List ((Int×Int)×Bool)},Seen m B→Seen (A.foldl (fun m e=>mput m e true) m) (B++A)
  |[],B,m,h=>by simpa using h
  |a :: A,B,m,h=>by
    have:=foldM_seen (A:=A) (h.step a)
    simpa [List.append_assoc] using this
theorem allM_seen (F:List V3):Seen (allM F) (all F):=by simpa [allM] using foldM_seen (A:=all F) Seen.nil
theorem allM_mem {F:List V3} {p:(Int×Int)×Bool} (h:p∈allM F):p.1∈all F:=by
  have:=(foldM_mem (A:=all F) (m:=[]) (fun q hq=>by cases hq) p h).2
  rcases this with h|h
  · cases h
  · exact h
theorem mget_mem {κ ν:Type} [DecidableEq κ]:∀{m:List (κ×ν)} {a:κ} {v:ν},mget m a=some v→(a,v)∈m
  |[],_,_,h=>by cases h
  |q :: m,a,v,h=>by
    simp only [mget] at h
    split at h
    · rename_i e;cases h;subst e;simp
    · exact List.mem_cons_of_mem _ (mget_mem h)
theorem allM_of {F:List V3} {e:Int×Int} (h:e∈all F):∃b,(e,b)∈allM F:=by
  have h1:=allM_seen F e
  simp only [h,decide_true] at h1
  cases hm:mget (allM F) e with
  |none=>rw [hm] at h1;cases h1
  |some b=>exact ⟨b,mget_mem hm⟩
theorem all_rng {V F:List V3} (hg:Good V F) {e:Int×Int} (h:e∈all F):0≤e.1∧e.1<V.length∧0≤e.2∧e.2<V.length∧e.1≠e.2:=by
  unfold all at h
  obtain ⟨f,hf,he⟩:=List.mem_flatMap.1 h
  obtain ⟨i,hi,rfl⟩:=mem_getD (0,0,0) hf
  have:=hg.at hi
  simp only [edges3,List.mem_cons,List.not_mem_nil,or_false] at he
  rcases he with rfl|rfl|rfl <;> simp only <;> omega
def isB (F:List V3) (e:Int×Int):Prop:=e∈all F∧(e.2,e.1) ∉ all F
structure BPart (F:List V3) (vis:List ((Int×Int)×Bool)) (bm:List (Int×Int)):Prop where
  some_:∀v w,mget bm v=some w→isB F (v,w)∧∃q∈vis,q.1=(v,w)
  ex:∀q∈vis,isB F q.1→∃w,mget bm q.1.1=some w
  sub:∀q∈vis,q∈allM F
  nodup:(vis.map (·.1)).Nodup
theorem BPart.nil (F:List V3):BPart F [] []:=⟨fun v w h=>(by cases h),fun q h=>(by cases h),fun q h=>(by cases h),by simp⟩
theorem BPart.len {F:List V3} {vis:List ((Int×Int)×Bool)} {bm:List (Int×Int)} (h:BPart F vis bm):vis.length≤(allM F).length:=len_of_sub (by
  have:=h.nodup
  exact (List.pairwise_map.1 this).imp (fun hne e=>hne (by rw [e]))) h.sub
theorem BPart.push {F:List V3} {vis:List ((Int×Int)×Bool)} {bm:List (Int×Int)} (h:BPart F vis bm) {q:(Int×Int)×Bool} (hm:q∈allM F) (hn:q.1 ∉ vis.map (·.1)):((vis++[q]).map (·.1)).Nodup∧∀x∈vis++[q],x∈allM F:=by
  refine ⟨?_,fun x hx=> ?_⟩
  · rw [List.map_append]
    exact List.nodup_append.2 ⟨h.nodup,by simp,fun x hx y hy=>by simp at hy;subst hy;exact fun e=>hn (e ▸ hx)⟩
  · rcases List.mem_append.1 hx with hx | hx
    · exact h.sub x hx
    · simp at hx;rw [hx];exact hm
theorem BPart.hit {F:List V3} {vis:List ((Int×Int)×Bool)} {bm:List (Int×Int)} (h:BPart F vis bm) {q:(Int×Int)×Bool} (hm:q∈allM F) (hn:q.1 ∉ vis.map (·.1)) (hl:(!(mget (allM F) (q.1.2,q.1.1)).getD false)=true):BPart F (vis++[q]) (mput bm q.1.1 q.1.2):=by
  have hB:isB F q.1:=⟨allM_mem hm,fun hc=>by
    have:=allM_seen F (q.1.2,q.1.1)
    simp only [hc,decide_true] at this
    rw [this] at hl;cases hl⟩
  refine ⟨fun v w hg=> ?_,fun x hx hb=> ?_,(h.push hm hn).2,(h.push hm hn).1⟩
  · rw [mget_mput] at hg
    split at hg
    · rename_i e;cases hg;subst e;exact ⟨hB,q,by simp,rfl⟩
    · obtain ⟨h1, x, hx, h2⟩ := h.some_ v w hg
      exact ⟨h1,x,List.mem_append_left _ hx,h2⟩
  · rw [mget_mput]
    split
    · exact ⟨_,rfl⟩
    · rename_i hne
      rcases List.mem_append.1 hx with hx|hx
      · exact h.ex x hx hb
      · simp at hx;rw [hx] at hne;exact absurd rfl hne
theorem BPart.miss {F:List V3} {vis:List ((Int×Int)×Bool)} {bm:List (Int×Int)} (h:BPart F vis bm) {q:(Int×Int)×Bool} (hm:q∈allM F) (hn:q.1 ∉ vis.map (·.1)) (hl:(!(mget (allM F) (q.1.2,q.1.1)).getD false)=false):BPart F (vis++[q]) bm:=by
  refine ⟨fun v w hg=> ?_,fun x hx hb=> ?_,(h.push hm hn).2,(h.push hm hn).1⟩
  · obtain ⟨h1, x, hx, h2⟩ := h.some_ v w hg
    exact ⟨h1,x,List.mem_append_left _ hx,h2⟩
  · rcases List.mem_append.1 hx with hx | hx
    · exact h.ex x hx hb
    · simp at hx
      subst hx
      have:=allM_seen F (x.1.2,x.1.1)
      simp only [hb.2,decide_false] at this
      rw [this] at hl;cases hl
structure BMap (F:List V3) (bm:List (Int×Int)):Prop where
  some_:∀v w,mget bm v=some w→isB F (v,w)
  ex:∀v w,isB F (v,w)→∃w',mget bm v=some w'
theorem BPart.fin {F:List V3} {vis:List ((Int×Int)×Bool)} {bm:List (Int×Int)} (h:BPart F vis bm) (hp:vis.Perm (allM F)):BMap F bm:=⟨fun v w hg=>(h.some_ v w hg).1,fun v w hb=>by
  obtain ⟨b,hb'⟩:=allM_of hb.1
  exact h.ex _ (hp.mem_iff.2 hb') hb⟩
theorem BPart.mu {F:List V3} {vis:List ((Int×Int)×Bool)} {bm:List (Int×Int)} {q:(Int×Int)×Bool} (h:BPart F (vis++[q]) bm):(allM F).length - (vis++[q]).length<(allM F).length - vis.length:=by
  have:=h.len
  simp only [List.length_append,List.length_cons,List.length_nil] at*
  omega
def bnd (F:List V3):List (Int×Int):=(all F).filter (fun e=>decide ((e.2,e.1) ∉ all F))
theorem mem_bnd {F:List V3} {e:Int×Int}:e∈bnd F↔isB F e:=by unfold bnd isB;rw [List.mem_filter];simp
theorem BMap.empty {F:List V3} {bm:List (Int×Int)} (h:BMap F bm):0<bm.length↔bnd F≠[]:=by
  constructor
  · intro hl
    obtain ⟨q,hq⟩:∃q,q∈bm:=List.exists_mem_of_length_pos hl
    have h1:(mget bm q.1).isSome=true:=mget_isSome.2 (List.mem_map.2 ⟨q,hq,rfl⟩)
    obtain ⟨w,hw⟩:=Option.isSome_iff_exists.1 h1
    have:=mem_bnd.2 (h.some_ _ _ hw)
    intro e;rw [e] at this;cases this
  · intro hne
    obtain ⟨e,he⟩:=List.exists_mem_of_ne_nil _ hne
    obtain ⟨w,hw⟩:=h.ex e.1 e.2 (mem_bnd.1 he)
    have:=mget_mem hw
    exact List.length_pos_of_mem this
def walkF (nx:Int→Option Int):Nat→List Int→Int→List Int
  |0,_,_=>[]
  |f+1,K,a=>if a∈K then [] else a :: walkF nx f (K++[a]) ((nx a).getD 0)
def walk (nx:Int→Option Int) (n:Nat) (K:List Int) (v:Int):List Int:=walkF nx (n+1) K v
def lstep (nx:Int→Option Int) (n:Nat) (s:List Int×List (List Int)) (v:Int):List Int×List (List Int):=if (nx v).isSome=false∨v∈s.1 then s else (s.1++walk nx n s.1 v,s.2++[walk nx n s.1 v])
def loopsF (nx:Int→Option Int) (n:Nat):Nat→List Int×List (List Int)
  |0=>([],[])
  |v+1=>lstep nx n (loopsF nx n v) v
def loops (nx:Int→Option Int) (n:Nat):List (List Int):=(loopsF nx n n).2
theorem loopsF_len (nx:Int→Option Int) (n:Nat):∀v,(loopsF nx n v).2.length≤v
  |0=>by simp [loopsF]
  |v+1=>by
    have:=loopsF_len nx n v
    rw [loopsF,lstep]
    split
    · omega
    · simp only [List.length_append,List.length_cons,List.length_nil];omega
def InR (n:Nat) (K:List Int):Prop:=∀x∈K,0≤x∧x<(n:Int)
theorem inR_len {n:Nat} {K:List Int} (h:InR n K) (hn:K.Nodup):K.length≤n:=by
  have:=len_of_sub (K:=K) (l:=(List.range n).map (fun (i:Nat)=>(i:Int))) hn (fun a ha=>List.mem_map.2 ⟨a.toNat,List.mem_range.2 (by have:=h a ha;omega),by have:=h a ha;omega⟩)
  simpa using this
structure WInv (nx:Int→Option Int) (n:Nat) (K:List Int) (v:Int) (W:List Int) (a:Int):Prop where
  rng:InR n (K++W)
  nodup:(K++W).Nodup
  at_:0≤a∧a<(n:Int)
  eq:W++walkF nx (n+1 - W.length) (K++W) a=walk nx n K v
theorem WInv.start {nx:Int→Option Int} {n:Nat} {K:List Int} {v:Int} (h:InR n K) (hn:K.Nodup) (hv:0≤v∧v<(n:Int)):WInv nx n K v [] v:=⟨by simpa using h,by simpa using hn,hv,by simp [walk]⟩
theorem WInv.len {nx:Int→Option Int} {n:Nat} {K:List Int} {v:Int} {W:List Int} {a:Int} (h:WInv nx n K v W a):(K++W).length≤n:=inR_len h.rng h.nodup
theorem WInv.step {nx:Int→Option Int} {n:Nat} {K:List Int} {v:Int} {W:List Int} {a:Int} (h:WInv nx n K v W a) (ha:a ∉ K++W) (hx:0≤(nx a).getD 0∧(nx a).getD 0<(n:Int)):WInv nx n K v (W++[a]) ((nx a).getD 0):=by
  have hl:=h.len
  rw [List.length_append] at hl
  refine ⟨fun x hx=> ?_,?_,hx,?_⟩
  · rw [← List.append_assoc] at hx
    rcases List.mem_append.1 hx with hx|hx
    · exact h.rng x hx
    · simp at hx;rw [hx];exact h.at_
  · rw [← List.append_assoc]
    exact List.nodup_append.2 ⟨h.nodup,by simp,fun x hx' y hy=>by simp at hy;subst hy;exact fun e=>ha (e ▸ hx')⟩
  · have := h.eq
    rw [show n+1 - W.length=(n+1 - (W++[a]).length)+1 by simp;omega,walkF,if_neg ha] at this
    rw [← this,List.append_assoc,List.append_assoc];rfl
theorem WInv.fin {nx:Int→Option Int} {n:Nat} {K:List Int} {v:Int} {W:List Int} {a:Int} (h:WInv nx n K v W a) (ha:a∈K++W):W=walk nx n K v:=by
  have hl:=h.len
  rw [List.length_append] at hl
  have:=h.eq
  rw [show n+1 - W.length=(n - W.length)+1 by omega,walkF,if_pos ha,List.append_nil] at this
  exact this
structure LInv (nx:Int→Option Int) (n v:Nat) (K:List Int) (out:List (List Int)):Prop where
  eq:loopsF nx n v=(K,out)
  rng:InR n K
  nodup:K.Nodup
theorem LInv.start (nx:Int→Option Int) (n:Nat):LInv nx n 0 [] []:=⟨rfl,fun x h=>(by cases h),by simp⟩
theorem LInv.len {nx:Int→Option Int} {n v:Nat} {K:List Int} {out:List (List Int)} (h:LInv nx n v K out):out.length≤v:=by
  have:=loopsF_len nx n v
  rw [h.eq] at this;exact this
theorem LInv.skip {nx:Int→Option Int} {n v:Nat} {K:List Int} {out:List (List Int)} (h:LInv nx n v K out) (hs:(!(nx v).isSome)=true∨(v:Int)∈K):LInv nx n (v+1) K out:=⟨by
  rw [loopsF,h.eq,lstep,if_pos (by rcases hs with h|h;exact .inl (by simpa using h);exact .inr h)],h.rng,h.nodup⟩
theorem LInv.step {nx:Int→Option Int} {n v:Nat} {K:List Int} {out:List (List Int)} (h:LInv nx n v K out) (hs:¬((!(nx v).isSome)=true∨(v:Int)∈K)) {W:List Int} {a:Int} (hW:WInv nx n K v W a) (ha:a∈K++W):LInv nx n (v+1) (K++W) (out++[W]):=by
  have e:=hW.fin ha
  refine ⟨?_,hW.rng,hW.nodup⟩
  rw [loopsF,h.eq,lstep,if_neg (fun hc=>hs (by rcases hc with h|h;exact .inl (by simp [h]);exact .inr h)),←e]
theorem LInv.fin {nx:Int→Option Int} {n:Nat} {K:List Int} {out:List (List Int)} (h:LInv nx n n K out):out=loops nx n:=by unfold loops;rw [h.eq]
theorem BMap.rng {V F:List V3} (hg:Good V F) {bm:List (Int×Int)} (h:BMap F bm) {a:Int} (h0:0<V.length):0≤(mget bm a).getD 0∧(mget bm a).getD 0<V.length:=by
  cases hm:mget bm a with
  |none=>simp;omega
  |some w=>
    have:=all_rng hg (h.some_ a w hm).1
    simp;omega
def pl (e:Int×Int):Int×Int:=(min e.1 e.2,max e.1 e.2)
def psF:Nat→List V3→List ((Int×Int)×Int)
  |_,[]=>[]
  |i,f :: l=>(pl (f.1,f.2.1),(i:Int)) :: (pl (f.2.1,f.2.2),(i:Int)) :: (pl (f.2.2,f.1),(i:Int)) :: psF (i+1) l
def ps (F:List V3):List ((Int×Int)×Int):=psF 0 F
theorem psF_snoc:∀(F:List V3) (i:Nat) (f:V3),psF i (F++[f])=psF i F++[(pl (f.1,f.2.1),((i+F.length:Nat):Int)),(pl (f.2.1,f.2.2),((i+F.length:Nat):Int)),(pl (f.2.2,f.1),((i+F.length:Nat):Int))]
  |[],i,f=>by simp [psF]
  |g :: l,i,f=>by
    have:=psF_snoc l (i+1) f
    simp only [List.cons_append,psF,this,List.length_cons]
    rw [show i+1+l.length=i+(l.length+1) by omega]
def sideS (M:List ((Int×Int)×List Int)) (q:(Int×Int)×Int):List ((Int×Int)×List Int):=mput M q.1 ((mget M q.1).getD []++[q.2])
def sides (F:List V3):List ((Int×Int)×List Int):=(ps F).foldl sideS []
theorem sides_take {F:List V3} {i:Nat} (h:i<F.length):sides (F.take (i+1))=sideS (sideS (sideS (sides (F.take i)) (pl ((F.getD i (0,0,0)).1,(F.getD i (0,0,0)).2.1),(i:Int))) (pl ((F.getD i (0,0,0)).2.1,(F.getD i (0,0,0)).2.2),(i:Int))) (pl ((F.getD i (0,0,0)).2.2,(F.getD i (0,0,0)).1),(i:Int)):=by
  unfold sides ps
  rw [take_snoc (0,0,0) h,psF_snoc,List.foldl_append,List.length_take,show 0+min i F.length=i by omega];rfl
theorem sideS_len {M:List ((Int×Int)×List Int)} {N:Nat} (h:∀k,((mget M k).getD []).length≤N) (q:(Int×Int)×Int):∀k,((mget (sideS M q) k).getD []).length≤N+1:=fun k=>by
  unfold sideS
  rw [mget_mput]
  split
  · have:=h q.1;simp;omega
  · have:=h k;omega
theorem foldS_len:∀{A:List ((Int×Int)×Int)} {M:List ((Int×Int)×List Int)} {N:Nat},(∀k,((mget M k).getD []).length≤N)→∀k,((mget (A.foldl sideS M) k).getD []).length≤N+A.length
  |[],M,N,h,k=>by simpa using h k
  |a :: A,M,N,h,k=>by
    have:=foldS_len (A:=A) (sideS_len h a) k
    simp only [List.foldl_cons,List.length_cons];omega
theorem psF_len:∀(F:List V3) (i:Nat),(psF i F).length=3*F.length
  |[],_=>rfl
  |f :: l,i=>by simp only [psF,List.length_cons,psF_len l (i+1)];omega
theorem sides_len (F:List V3):∀k,((mget (sides F) k).getD []).length≤3*F.length:=fun k=>by
  have:=foldS_len (A:=ps F) (M:=[]) (N:=0) (fun k=>by simp [mget]) k
  unfold ps at this
  rw [psF_len] at this
  simpa [sides,ps] using this
def verts (F:List V3):List Int:=F.flatMap (fun f=>[f.1,f.2.1,f.2.2])
def usedM (F:List V3):List (Int×Bool):=(verts F).foldl (fun m v=>mput m v true) []
theorem usedM_take {F:List V3} {i:Nat} (h:i<F.length):usedM (F.take (i+1))=mput (mput (mput (usedM (F.take i)) (F.getD i (0,0,0)).1 true) (F.getD i (0,0,0)).2.1 true) (F.getD i (0,0,0)).2.2 true:=by
  unfold usedM verts
  rw [take_snoc (0,0,0) h,List.flatMap_append,List.foldl_append];rfl
def eulerP (F:List V3):Int:=((usedM F).length:Int) - ((sides F).length:Int)+(F.length:Int)
theorem mput_len {κ ν:Type} [DecidableEq κ] (m:List (κ×ν)) (a:κ) (v:ν):(mput m a v).length≤m.length+1:=by
  have:=congrArg List.length (mput_keys m a v)
  rw [List.length_map] at this
  rw [this];split <;> simp
theorem foldM_len {κ ν σ:Type} [DecidableEq κ] (f:List (κ×ν)→σ→List (κ×ν)) (hf:∀m s,(f m s).length≤m.length+1):∀(A:List σ) (m:List (κ×ν)),(A.foldl f m).length≤m.length+A.length
  |[],m=>by simp
  |a :: A,m=>by
    have:=foldM_len f hf A (f m a)
    have:=hf m a
    simp only [List.foldl_cons,List.length_cons];omega
theorem usedM_len (F:List V3):(usedM F).length≤3*F.length:=by
  have:=foldM_len (fun (m:List (Int×Bool)) v=>mput m v true) (fun m s=>mput_len m s true) (verts F) []
  have h2:(verts F).length=3*F.length:=by
    unfold verts;induction F with
    |nil=>rfl
    |cons f l ih=>simp only [List.flatMap_cons,List.length_append,List.length_cons,List.length_nil];have:=ih (by exact foldM_len (fun (m:List (Int×Bool)) v=>mput m v true) (fun m s=>mput_len m s true) (verts l) []);omega
  unfold usedM
  rw [h2] at this
  simpa using this
theorem sidesN_len (F:List V3):(sides F).length≤3*F.length:=by
  have:=foldM_len sideS (fun m s=>mput_len m s.1 _) (ps F) []
  unfold ps at this
  rw [psF_len] at this
  simpa [sides,ps] using this
def bordersR (V F:List V3) (bm:List (Int×Int)):List (List Int):=if check V F=0 then loops (fun jj=>mget bm jj) V.length else []
def eulerR (V F:List V3):Int:=if check V F=0 then eulerP F else 0
def pt (V:List V3) (j:Int):V3:=V.getD j.toNat (0,0,0)
theorem check_form {V F:List V3} (h:check V F=0):form V F=0:=by
  by_cases h1:form V F=0
  · exact h1
  · rw [check_bad h1] at h;exact absurd h h1
theorem check_nodup {V F:List V3} (h:check V F=0):(all F).Nodup:=by
  by_cases h1:(all F).Nodup
  · exact h1
  · rw [check_dup (check_form h) h1] at h;cases h
def exV:List V3:=[(0,0,0),(1,0,0),(0,1,0),(0,0,1)]
end Go.Proofs.Ytpdbimfnhglhpaa.Ms
namespace Go.Proofs.Ytpdbimfnhglhpaa.Big
end Go.Proofs.Ytpdbimfnhglhpaa.Big
namespace Go.Proofs.Ytpdbimfnhglhpaa.Ms
open Go.Proofs.Ytpdbimfnhglhpaa.Sp (mget mput mget_mput mput_keys mput_nodup mget_isSome)
set_option linter.unusedVariables false
def sumI:List Int→Int
  |[]=>0
  |a :: l=>a+sumI l
theorem sumI_append:∀(l m:List Int),sumI (l++m)=sumI l+sumI m
  |[],m=>by simp [sumI]
  |a :: l,m=>by simp only [List.cons_append,sumI,sumI_append l m];omega
def sw (e:Int×Int):Int×Int:=(e.2,e.1)
def nrm (V:List V3) (f:V3):V3:=cross (sub (pt V f.2.1) (pt V f.1)) (sub (pt V f.2.2) (pt V f.1))
def vecS (V F:List V3):V3:=F.foldl (fun s f=>(s.1+(nrm V f).1,s.2.1+(nrm V f).2.1,s.2.2+(nrm V f).2.2)) (0,0,0)
theorem vecS_take {V F:List V3} {i:Nat} (h:i<F.length):vecS V (F.take (i+1))=((vecS V (F.take i)).1+(nrm V (F.getD i (0,0,0))).1,(vecS V (F.take i)).2.1+(nrm V (F.getD i (0,0,0))).2.1,(vecS V (F.take i)).2.2+(nrm V (F.getD i (0,0,0))).2.2):=by
  unfold vecS;rw [take_snoc (0,0,0) h,List.foldl_append];rfl
theorem vecS_foldl (V:List V3):∀(F:List V3) (s:V3),F.foldl (fun s f=>(s.1+(nrm V f).1,s.2.1+(nrm V f).2.1,s.2.2+(nrm V f).2.2)) s=(s.1+sumI (F.map fun f=>(nrm V f).1),s.2.1+sumI (F.map fun f=>(nrm V f).2.1),s.2.2+sumI (F.map fun f=>(nrm V f).2.2))
  |[],s=>by simp [sumI]
  |x :: F,s=>by
    simp only [List.foldl_cons,List.map_cons,sumI,vecS_foldl V F]
    refine Prod.ext ?_ (Prod.ext ?_ ?_) <;> simp only <;> omega
def vecR (V F:List V3):V3:=if check V F=0 then vecS V F else (0,0,0)
theorem mul_lim {a b:Int} (ha: -2097152≤a∧a≤2097152) (hb: -2097152≤b∧b≤2097152): -4398046511104≤a*b∧a*b≤4398046511104:=by
  have:=mul_le (A:=2097152) (B:=2097152) ha hb
  omega
end Go.Proofs.Ytpdbimfnhglhpaa.Ms
namespace Go.Proofs.Ytpdbimfnhglhpaa.Ms
open Go.Proofs.Ytpdbimfnhglhpaa.Sp (mget mput mget_mput mput_keys mput_nodup mget_isSome)
set_option linter.unusedVariables false
set_option linter.unusedSectionVars false
def fiF (p:V3):List V3→Nat
  |[]=>0
  |q :: l=>if q=p then 0 else fiF p l+1
theorem fiF_lt {p:V3}:∀{l:List V3},p∈l→fiF p l<l.length∧l.getD (fiF p l) (0,0,0)=p
  |q :: l,h=>by
    unfold fiF
    by_cases e:q=p
    · rw [if_pos e];exact ⟨by simp,by simpa using e⟩
    · rw [if_neg e]
      have:=fiF_lt (l:=l) (by rcases List.mem_cons.1 h with h|h;exact absurd h.symm e;exact h)
      exact ⟨by simp only [List.length_cons];omega,by simpa using this.2⟩
theorem fiF_first {p:V3}:∀{l:List V3} {j:Nat},j<fiF p l→l.getD j (0,0,0)≠p∨l.length≤j
  |[],j,h=>by simp [fiF] at h
  |q :: l,j,h=>by
    unfold fiF at h
    by_cases e:q=p
    · rw [if_pos e] at h;omega
    · rw [if_neg e] at h
      cases j with
      |zero=>exact Or.inl (by simpa using e)
      |succ j=>
        rcases fiF_first (p:=p) (l:=l) (j:=j) (by omega) with h1|h1
        · exact Or.inl (by simpa using h1)
        · exact Or.inr (by simp only [List.length_cons];omega)
theorem fiF_le {p:V3} {l:List V3} {j:Nat} (h:j<l.length) (e:l.getD j (0,0,0)=p):fiF p l≤j:=by
  refine Decidable.byContradiction fun hc=> ?_
  rcases fiF_first (l:=l) (p:=p) (j:=j) (by omega) with h1|h1
  · exact h1 e
  · omega
theorem fiF_eq {p:V3} {l:List V3} {j:Nat} (h:j<l.length) (e:l.getD j (0,0,0)=p) (hn:∀i,i<j→l.getD i (0,0,0)≠p):fiF p l=j:=by
  have h1:=fiF_le h e
  have h2:=(fiF_lt (p:=p) (l:=l) (by rw [← e];exact getD_mem _ h)).2
  by_cases hlt:fiF p l<j
  · exact absurd h2 (hn _ hlt)
  · omega
structure FMap (V:List V3) (i:Nat) (m:List (V3×Int)):Prop where
  some_:∀p v,mget m p=some v→∃j:Nat,v=j∧j<i∧V.getD j (0,0,0)=p∧∀k,k<j→V.getD k (0,0,0)≠p
  ex:∀j,j<i→∃v,mget m (V.getD j (0,0,0))=some v
theorem FMap.nil (V:List V3):FMap V 0 []:=⟨fun p v h=>(by cases h),fun j h=>(by omega)⟩
theorem FMap.keep {V:List V3} {i:Nat} {m:List (V3×Int)} (h:FMap V i m) (hs:(mget m (V.getD i (0,0,0))).isSome=true):FMap V (i+1) m:=⟨fun p v e=>by
  obtain ⟨j,h1,h2,h3⟩:=h.some_ p v e
  exact ⟨j,h1,by omega,h3⟩,fun j hj=>by
  by_cases e:j<i
  · exact h.ex j e
  · have : j = i := by omega
    subst this
    exact Option.isSome_iff_exists.1 hs⟩
theorem FMap.put {V:List V3} {i:Nat} {m:List (V3×Int)} (h:FMap V i m) (hs:(mget m (V.getD i (0,0,0))).isSome=false):FMap V (i+1) (mput m (V.getD i (0,0,0)) (i:Int)):=⟨fun p v e=>by
  rw [mget_mput] at e
  split at e
  · rename_i hp
    cases e
    refine ⟨i,rfl,by omega,hp.symm ▸ rfl,fun k hk hkp=> ?_⟩
    obtain ⟨v,hv⟩:=h.ex k hk
    rw [hkp] at hv
    rw [hp,hv] at hs;cases hs
  · obtain ⟨j, h1, h2, h3⟩ := h.some_ p v e
    exact ⟨j,h1,by omega,h3⟩,fun j hj=>by
  rw [mget_mput]
  split
  · exact ⟨_,rfl⟩
  · rename_i hne
    exact h.ex j (by
      refine Decidable.byContradiction fun hc=> ?_
      have:j=i:=by omega
      subst this;exact hne rfl)⟩
def fi (V:List V3) (v:Int):Int:=(fiF (pt V v) V:Nat)
theorem FMap.get {V:List V3} {m:List (V3×Int)} (h:FMap V V.length m) {v:Int} (hv:v.toNat<V.length):(mget m (pt V v)).getD 0=fi V v:=by
  obtain ⟨u,hu⟩:=h.ex v.toNat hv
  obtain ⟨j,h1,h2,h3,h4⟩:=h.some_ _ _ hu
  have e:mget m (pt V v)=some u:=hu
  rw [e,h1]
  have:=fiF_eq (p:=pt V v) h2 h3 h4
  unfold fi;rw [this];rfl
def wf (V:List V3) (f:V3):V3:=(fi V f.1,fi V f.2.1,fi V f.2.2)
def usedB (K:List V3) (j:Nat):Bool:=K.any (fun f=>hasV f (j:Int))
def usedL (n:Nat) (K:List V3):List Bool:=(List.range n).map (usedB K)
@[simp] theorem usedL_len (n : Nat) (K : List V3) : (usedL n K).length = n := by simp [usedL]
def rank (K:List V3) (j:Nat):Nat:=((List.range j).filter (usedB K)).length
structure Names (K:List V3) (n i:Nat) (N:List Int):Prop where
  len:N.length=n
  get:∀j,j<i→usedB K j=true→N.getD j 0=(rank K j:Int)
theorem Names.start (K:List V3) (n:Nat):Names K n 0 (List.replicate n 0):=⟨by simp,fun j h=>by omega⟩
theorem Names.hit {K:List V3} {n i:Nat} {N:List Int} (h:Names K n i N) (hi:i<n):Names K n (i+1) (N.set i (rank K i:Int)):=⟨by simp [h.len],fun j hj hu=>by
  rw [List.getD_eq_getElem?_getD,List.getElem?_set]
  by_cases e:i=j
  · rw [if_pos e,if_pos (by rw [h.len];exact hi),e];rfl
  · rw [if_neg e,←List.getD_eq_getElem?_getD];exact h.get j (by omega) hu⟩
theorem Names.miss {K:List V3} {n i:Nat} {N:List Int} (h:Names K n i N) (hu:usedB K i=false):Names K n (i+1) N:=⟨h.len,fun j hj hj2=>by
  by_cases e:j=i
  · rw [e,hu] at hj2;cases hj2
  · exact h.get j (by omega) hj2⟩
def Numbers (K:List V3) (i:Nat) (m:List (Int×Int)):Prop:=∀j,j<i→usedB K j=true→mget m (j:Int)=some (rank K j:Int)
theorem Numbers.start (K:List V3):Numbers K 0 []:=fun j h=>by omega
theorem Numbers.hit {K:List V3} {i:Nat} {m:List (Int×Int)} (h:Numbers K i m):Numbers K (i+1) (mput m (i:Int) (rank K i:Int)):=fun j hj hu=>by
  rw [mget_mput]
  by_cases e:j=i
  · subst e;rw [if_pos rfl]
  · rw [if_neg (by omega)];exact h j (by omega) hu
theorem Numbers.miss {K:List V3} {i:Nat} {m:List (Int×Int)} (h:Numbers K i m) (hu:usedB K i=false):Numbers K (i+1) m:=fun j hj hj2=>by
  by_cases e:j=i
  · rw [e,hu] at hj2;cases hj2
  · exact h j (by omega) hj2
theorem deg_iff {f:V3}:deg f=false↔f.1≠f.2.1∧f.2.1≠f.2.2∧f.2.2≠f.1:=by
  unfold deg;simp
section
variable {V F : List V3} (hg : Good V F)
include hg
end
def turn (f:V3):V3:=(f.1,f.2.2,f.2.1)
end Go.Proofs.Ytpdbimfnhglhpaa.Ms
namespace Go.Proofs.Ytpdbimfnhglhpaa.Ms
open Go.Proofs.Ytpdbimfnhglhpaa.Sp (mget mput mget_mput mput_keys mput_nodup mget_isSome)
set_option linter.unusedVariables false
set_option linter.unusedSectionVars false
def nx (v:Int) (f:V3):Int:=if f.1=v then f.2.1 else if f.2.1=v then f.2.2 else f.1
def pv (v:Int) (f:V3):Int:=if f.1=v then f.2.2 else if f.2.1=v then f.1 else f.2.1
theorem nx_edge {v:Int} {f:V3} (h:hasV f v=true):(v,nx v f)∈edges3 f∧(pv v f,v)∈edges3 f:=by
  unfold hasV at h
  simp only [decide_eq_true_eq] at h
  unfold nx pv edges3
  by_cases h1:f.1=v
  · simp [h1]
  · by_cases h2 : f.2.1 = v
    · simp [h1,h2]
    · have h3 : f.2.2 = v := by rcases h with h | h | h; exact absurd h h1; exact absurd h h2; exact h
      simp [h1,h2,h3]
theorem has_nx {v w:Int} {f:V3} (h:hasV f v=true) (hw:hasV f w=true) (hn:w≠v):w=nx v f∨w=pv v f:=by
  unfold hasV at h hw
  simp only [decide_eq_true_eq] at h hw
  unfold nx pv
  by_cases h1:f.1=v
  · rw [if_pos h1,if_pos h1];omega
  · by_cases h2 : f.2.1 = v
    · rw [if_neg h1,if_pos h2,if_neg h1,if_pos h2];omega
    · rw [if_neg h1,if_neg h2,if_neg h1,if_neg h2];omega
theorem edge_nx {v w:Int} {f:V3} (hd:deg f=false) (h:(v,w)∈edges3 f):hasV f v=true∧nx v f=w∧hasV f w=true∧pv w f=v:=by
  have h0:=deg_iff.1 hd
  unfold edges3 at h
  simp only [List.mem_cons,List.not_mem_nil,or_false,Prod.mk.injEq] at h
  unfold hasV nx pv
  simp only [decide_eq_true_eq]
  rcases h with ⟨rfl,rfl⟩|⟨rfl,rfl⟩|⟨rfl,rfl⟩
  · refine ⟨by simp, by simp, by simp, ?_⟩
    rw [if_neg h0.1,if_pos rfl]
  · refine ⟨by simp, ?_, by simp, ?_⟩
    · rw [if_neg h0.1,if_pos rfl]
    · rw [if_neg (fun e=>h0.2.2 e.symm),if_neg h0.2.1]
  · refine ⟨by simp, ?_, by simp, ?_⟩
    · rw [if_neg (fun e=>h0.2.2 e.symm),if_neg h0.2.1]
    · rw [if_pos rfl]
theorem edge_face {F:List V3} {e:Int×Int} (h:e∈all F):∃j,j<F.length∧e∈edges3 (F.getD j (0,0,0)):=by
  unfold all at h
  obtain ⟨f,hf,he⟩:=List.mem_flatMap.1 h
  obtain ⟨j,hj,rfl⟩:=mem_getD (0,0,0) hf
  exact ⟨j,hj,he⟩
theorem face_edge {F:List V3} {e:Int×Int} {j:Nat} (hj:j<F.length) (h:e∈edges3 (F.getD j (0,0,0))):e∈all F:=List.mem_flatMap.2 ⟨_,getD_mem _ hj,h⟩
theorem edge_lt {F:List V3} (hn:(all F).Nodup) {e:Int×Int} {j k:Nat} (hk:k<F.length) (hjk:j<k) (h1:e∈edges3 (F.getD j (0,0,0))) (h2:e∈edges3 (F.getD k (0,0,0))):False:=by
  obtain ⟨B,hB⟩:=all_prefix (F:=F) (k+1)
  rw [hB,take_snoc (0,0,0) hk,all_snoc] at hn
  have h3:=(List.nodup_append.1 (List.nodup_append.1 hn).1).2.2
  have h4:e∈all (F.take k):=by
    have e0:(F.take k).getD j (0,0,0)=F.getD j (0,0,0):=by
      rw [List.getD_eq_getElem?_getD,List.getD_eq_getElem?_getD,List.getElem?_take_of_lt hjk]
    exact face_edge (F:=F.take k) (j:=j) (by rw [List.length_take];omega) (by rw [e0];exact h1)
  exact h3 e h4 e h2 rfl
theorem edge_same {F:List V3} (hn:(all F).Nodup) {e:Int×Int} {j k:Nat} (hj:j<F.length) (hk:k<F.length) (h1:e∈edges3 (F.getD j (0,0,0))) (h2:e∈edges3 (F.getD k (0,0,0))):j=k:=by
  by_cases a:j<k
  · exact (edge_lt hn hk a h1 h2).elim
  · by_cases b : k < j
    · exact (edge_lt hn hj b h2 h1).elim
    · omega
inductive Fan (F:List V3) (v:Int) (i:Int):Int→Prop
  |refl:Fan F v i i
  |step {j k:Int}:j∈at_ F v→k∈at_ F v→nx v (F.getD j.toNat (0,0,0))=pv v (F.getD k.toNat (0,0,0))→Fan F v i k→Fan F v i j
section
variable {F : List V3} (hd : ∀ f ∈ F, deg f = false) (hn : (all F).Nodup)
include hd hn
theorem nx_inj {v j k:Int} (hj:j∈at_ F v) (hk:k∈at_ F v) (h:nx v (F.getD j.toNat (0,0,0))=nx v (F.getD k.toNat (0,0,0))):j=k:=by
  have a:=(at_all hd (v:=v)).1
  have h1:=(nx_edge (a j hj).2.2).1
  have h2:=(nx_edge (a k hk).2.2).1
  rw [h] at h1
  have:=edge_same hn (j:=j.toNat) (k:=k.toNat) (by have:=a j hj;omega) (by have:=a k hk;omega) h1 h2
  have b:=(a j hj).1;have c:=(a k hk).1
  omega
theorem zOc {v j k:Int} (hj:j∈at_ F v) (hk:k∈at_ F v) (h:pv v (F.getD j.toNat (0,0,0))=pv v (F.getD k.toNat (0,0,0))):j=k:=by
  have a:=(at_all hd (v:=v)).1
  have h1:=(nx_edge (a j hj).2.2).2
  have h2:=(nx_edge (a k hk).2.2).2
  rw [h] at h1
  have:=edge_same hn (j:=j.toNat) (k:=k.toNat) (by have:=a j hj;omega) (by have:=a k hk;omega) h1 h2
  have b:=(a j hj).1;have c:=(a k hk).1
  omega
theorem fan_of {v i:Int} (hi:i∈at_ F v) (hend:∀k∈at_ F v,pv v (F.getD k.toNat (0,0,0))≠nx v (F.getD i.toNat (0,0,0))) {b:Int} (h:Conn (pairs F v (at_ F v)) i b):Fan F v i b∧b∈at_ F v:=by
  have a:=(at_all hd (v:=v)).1
  induction h with
  |refl=>exact ⟨.refl,hi⟩
  |step _ h1 h2 ih=>
    rename_i b c w _
    obtain ⟨hF,hb⟩:=ih
    have p1:=mem_pairs.1 h1
    have p2:=mem_pairs.1 h2
    have hc:=p2.1
    refine ⟨?_,hc⟩
    rcases has_nx (a b hb).2.2 p1.2.1 p1.2.2 with e1|e1 <;> rcases has_nx (a c hc).2.2 p2.2.1 p2.2.2 with e2|e2
    · rw [← nx_inj hd hn hb hc (e1.symm.trans e2)];exact hF
    · -- b goes on to c
      cases hF with
      |refl=>exact absurd (e2.symm.trans e1) (hend c hc)
      |step k1 k2 k3 k4=>
        have:=zOc hd hn hc k2 (e2.symm.trans (e1.trans k3))
        rw [this];exact k4
    · exact .step hc hb (e2.symm.trans e1) hF
    · rw [← zOc hd hn hb hc (e1.symm.trans e2)];exact hF
theorem border_one {v:Int} (hs:starB F v (at_ F v)=true) (hF:F.length≤1024) {w w':Int} (h:isB F (v,w)) (h':isB F (v,w')):w=w':=by
  have a:=(at_all hd (v:=v)).1
  have hl:∀i∈at_ F v,0≤i∧i≤1099511627776:=fun i hi=>⟨(a i hi).1,by have:=(a i hi).2.1;omega⟩
  have key:∀w,isB F (v,w)→∃j:Nat,(j:Int)∈at_ F v∧nx v (F.getD j (0,0,0))=w∧∀k∈at_ F v,pv v (F.getD k.toNat (0,0,0))≠nx v (F.getD j (0,0,0)):=fun w hw=>by
    obtain ⟨j,hj,he⟩:=edge_face hw.1
    obtain ⟨e1,e2,_⟩:=edge_nx (hd _ (getD_mem _ hj)) he
    refine ⟨j,(at_all hd (v:=v)).2.2 j hj e1,e2,fun k hk hc=> ?_⟩
    have e3:=(nx_edge (a k hk).2.2).2
    rw [hc,e2] at e3
    exact hw.2 (face_edge (j:=k.toNat) (by have:=a k hk;omega) e3)
  obtain ⟨j,j1,j2,j3⟩:=key w h
  obtain ⟨k,k1,k2,k3⟩:=key w' h'
  have hc:=(starB_iff hl).1 hs j j1 k k1
  obtain ⟨hfan,_⟩:=fan_of hd hn (i:=(j:Int)) j1 (by rw [Int.toNat_natCast];exact j3) hc
  cases hfan with
  |refl=>rw [← j2,←k2]
  |step q1 q2 q3 q4=>
    rw [Int.toNat_natCast] at q3
    exact absurd q3.symm (k3 _ q2)
end
theorem border_uniq {V F:List V3} (h:check V F=0):∀v w w',isB F (v,w)→isB F (v,w')→w=w':=fun v w w' h1 h2=>by
  have hf:=check_form h
  have hg:=form_zero.1 hf
  have hn:=check_nodup h
  have hr:=all_rng hg h1.1
  refine border_one hg.dg hn ?_ hg.nf h1 h2
  refine Decidable.byContradiction fun hc=> ?_
  have:=check_star hf hn (v:=v.toNat) (by simp only at hr;omega) (by rw [Int.toNat_of_nonneg hr.1];simpa using hc)
  rw [this] at h;cases h
theorem same_len {α:Type} [DecidableEq α] {K l:List α} (hK:K.Nodup) (hl:l.Nodup) (h:∀a,a∈K↔a∈l):K.length=l.length:=by
  have h1:=len_of_sub hK (fun a ha=>(h a).1 ha)
  have h2:=len_of_sub hl (fun a ha=>(h a).2 ha)
  omega
theorem foldP_keys {κ ν σ:Type} [DecidableEq κ] (key:σ→κ) (val:List (κ×ν)→σ→ν):∀(A:List σ) (m:List (κ×ν)),(m.map (·.1)).Nodup→((A.foldl (fun m s=>mput m (key s) (val m s)) m).map (·.1)).Nodup∧∀k,k∈(A.foldl (fun m s=>mput m (key s) (val m s)) m).map (·.1)↔k∈m.map (·.1)∨∃s∈A,key s=k
  |[],m,h=>⟨h,fun k=>by simp⟩
  |a :: A,m,h=>by
    obtain ⟨h1,h2⟩:=foldP_keys key val A (mput m (key a) (val m a)) (mput_nodup h)
    refine ⟨h1,fun k=> ?_⟩
    rw [List.foldl_cons,h2 k,mput_keys]
    simp only [List.mem_cons,exists_eq_or_imp]
    split
    · rename_i hm
      constructor
      · rintro (h|h);exact .inl h;exact .inr (.inr h)
      · rintro (h|h|h);exact .inl h;exact .inl (h ▸ hm);exact .inr h
    · simp only [List.mem_append, List.mem_cons, List.not_mem_nil, or_false]
      constructor
      · rintro ((h|h)|h);exact .inl h;exact .inr (.inl h.symm);exact .inr (.inr h)
      · rintro (h|h|h);exact .inl (.inl h);exact .inl (.inr h.symm);exact .inr h
theorem verts_mem {F:List V3} {v:Int}:v∈verts F↔F.any (fun f=>hasV f v)=true:=by
  unfold verts
  simp only [List.mem_flatMap,List.any_eq_true,List.mem_cons,List.not_mem_nil,or_false,hasV,decide_eq_true_eq]
  constructor
  · rintro ⟨f,hf,h⟩;exact ⟨f,hf,by omega⟩
  · rintro ⟨f,hf,h⟩;exact ⟨f,hf,by omega⟩
theorem used_count {V F:List V3} (hg:Good V F):(usedM F).length=((List.range V.length).filter (fun v:Nat=>F.any (fun f=>hasV f (v:Int)))).length:=by
  obtain ⟨h1,h2⟩:=foldP_keys (fun v:Int=>v) (fun (_:List (Int×Bool)) _=>true) (verts F) [] (by simp)
  have h3:((usedM F).map (·.1)).length=(((List.range V.length).filter (fun v:Nat=>F.any (fun f=>hasV f (v:Int)))).map (fun v:Nat=>(v:Int))).length:=by
    refine same_len h1 ?_ (fun v=> ?_)
    · have hfn : ((List.range V.length).filter (fun v : Nat => F.any (fun f => hasV f (v : Int)))).Nodup := List.Pairwise.filter _ List.nodup_range
      refine List.pairwise_map.2 (List.Pairwise.imp ?_ hfn)
      intro a b h e
      exact h (by have e':(a:Int)=(b:Int):=e;omega)
    · rw [show (usedM F).map (·.1) = ((verts F).foldl (fun m v => mput m v true) ([] : List (Int × Bool))).map (·.1) from rfl]
      rw [h2 v]
      simp only [List.map_nil,List.not_mem_nil,false_or,exists_eq_right,List.mem_map,List.mem_filter,List.mem_range]
      constructor
      · intro hv
        have hv':=verts_mem.1 hv
        obtain ⟨f,hf,hh⟩:=List.any_eq_true.1 hv'
        obtain ⟨j,hj,rfl⟩:=mem_getD (0,0,0) hf
        have hat:=hg.at hj
        unfold hasV at hh;simp only [decide_eq_true_eq] at hh
        refine ⟨v.toNat,⟨by omega,?_⟩,by omega⟩
        rw [Int.toNat_of_nonneg (by omega)];exact hv'
      · rintro ⟨w,⟨hw,ha⟩,rfl⟩;exact verts_mem.2 ha
  simpa using h3
def oneway (F:List V3) (e:Int×Int):Bool:=decide (e.1<e.2∨(e.2,e.1) ∉ all F)
theorem psF_mem:∀(F:List V3) (i:Nat) (k:Int×Int) (j:Int),(k,j)∈psF i F↔∃n,n<F.length∧j=((i+n:Nat):Int)∧∃e∈edges3 (F.getD n (0,0,0)),pl e=k
  |[],i,k,j=>by simp [psF]
  |f :: l,i,k,j=>by
    have ih:=psF_mem l (i+1) k j
    simp only [psF,List.mem_cons,ih,Prod.mk.injEq]
    constructor
    · rintro (⟨rfl, rfl⟩ | ⟨rfl, rfl⟩ | ⟨rfl, rfl⟩ | ⟨n, h1, h2, h3⟩)
      · exact ⟨0,by simp,by simp,_,by simp [edges3],rfl⟩
      · exact ⟨0,by simp,by simp,_,by simp [edges3],rfl⟩
      · exact ⟨0,by simp,by simp,_,by simp [edges3],rfl⟩
      · exact ⟨n+1,by simp only [List.length_cons];omega,by rw [h2];congr 1;omega,by simpa using h3⟩
    · rintro ⟨n, h1, h2, e, he, hk⟩
      cases n with
      |zero=>
        simp only [List.getD_cons_zero,edges3,List.mem_cons,List.not_mem_nil,or_false] at he
        have hj:j=(i:Int):=by simpa using h2
        rcases he with rfl|rfl|rfl
        · exact .inl ⟨hk.symm,hj⟩
        · exact .inr (.inl ⟨hk.symm,hj⟩)
        · exact .inr (.inr (.inl ⟨hk.symm,hj⟩))
      |succ n=>
        refine .inr (.inr (.inr ⟨n,by simp only [List.length_cons] at h1;omega,by rw [h2];congr 1;omega,e,by simpa using he,hk⟩))
theorem sides_count {V F:List V3} (hg:Good V F) (hn:(all F).Nodup):(sides F).length=((all F).filter (oneway F)).length:=by
  obtain ⟨h1,h2⟩:=foldP_keys (fun q:(Int×Int)×Int=>q.1) (fun (m:List ((Int×Int)×List Int)) q=>(mget m q.1).getD []++[q.2]) (ps F) [] (by simp)
  have h3:((sides F).map (·.1)).length=(((all F).filter (oneway F)).map pl).length:=by
    refine same_len h1 ?_ (fun k=> ?_)
    · have hfn := List.Pairwise.filter (oneway F) hn
      refine List.pairwise_map.2 ?_
      refine List.Pairwise.imp_of_mem ?_ hfn
      intro a b ha hb hab hp
      obtain ⟨ha1,ha2⟩:=List.mem_filter.1 ha
      obtain ⟨hb1,hb2⟩:=List.mem_filter.1 hb
      have ra:=all_rng hg ha1
      have rb:=all_rng hg hb1
      unfold oneway at ha2 hb2
      simp only [decide_eq_true_eq] at ha2 hb2
      obtain ⟨a1,a2⟩:=a;obtain ⟨b1,b2⟩:=b
      simp only [pl,Prod.mk.injEq] at hp
      simp only at ra rb ha2 hb2
      have hne:¬(a1=b1∧a2=b2):=fun h=>hab (by rw [h.1,h.2])
      have hrev:a1=b2∧a2=b1:=by omega
      obtain ⟨rfl,rfl⟩:=hrev
      rcases ha2 with h|h
      · rcases hb2 with h' | h'
        · omega
        · exact h' ha1
      · exact h hb1
    · show k ∈ ((ps F).foldl sideS []).map (·.1) ↔ _
      have h2':=h2 k
      rw [show ((ps F).foldl sideS []).map (·.1)=((ps F).foldl (fun m q=>mput m q.1 ((mget m q.1).getD []++[q.2])) []).map (·.1) from rfl,h2']
      simp only [List.map_nil,List.not_mem_nil,false_or,List.mem_map,List.mem_filter]
      constructor
      · rintro ⟨⟨k', j⟩, hq, rfl⟩
        obtain ⟨n,hn1,_,e,he,hk⟩:=(psF_mem F 0 k' j).1 hq
        have hea:=face_edge hn1 he
        by_cases ho:oneway F e=true
        · exact ⟨e,⟨hea,ho⟩,hk⟩
        · unfold oneway at ho
          simp only [decide_eq_true_eq,not_or,Decidable.not_not] at ho
          have re:=all_rng hg hea
          refine ⟨(e.2,e.1),⟨ho.2,?_⟩,?_⟩
          · unfold oneway;simp only [decide_eq_true_eq];left;omega
          · rw [← hk];simp only [pl,Prod.mk.injEq];omega
      · rintro ⟨e, ⟨he, _⟩, rfl⟩
        obtain ⟨j,hj,hee⟩:=edge_face he
        exact ⟨(pl e,(j:Int)),(psF_mem F 0 _ _).2 ⟨j,hj,by simp,e,hee,rfl⟩,rfl⟩
  simpa using h3
def usedN (F:List V3) (n:Nat):Nat:=((List.range n).filter (fun v:Nat=>F.any (fun f=>hasV f (v:Int)))).length
def eulerL (V F:List V3):Int:=(F.length:Int)+(usedN F V.length:Int) - (((all F).filter (oneway F)).length:Int)
theorem euler_same {V F:List V3} (h:check V F=0):eulerP F=eulerL V F:=by
  have hg:=form_zero.1 (check_form h)
  unfold eulerP eulerL
  rw [used_count hg,sides_count hg (check_nodup h)];unfold usedN;omega
end Go.Proofs.Ytpdbimfnhglhpaa.Ms
namespace Go.Proofs.Ytpdbimfnhglhpaa.Ms
open Go.Proofs.Ytpdbimfnhglhpaa.Sp (mget mput mget_mput mput_keys mput_nodup mget_isSome)
set_option linter.unusedVariables false
set_option linter.unusedSectionVars false
def nseen (E:Nat→Nat→Bool) (i:Nat):Option Nat:=(List.range i).find? (fun k=>E k i)
def cntF (E:Nat→Nat→Bool):Nat→Nat
  |0=>0
  |i+1=>cntF E i+(if (nseen E i).isSome then 0 else 1)
def numsL (E:Nat→Nat→Bool):Nat→List Int
  |0=>[]
  |i+1=>numsL E i++[match nseen E i with|some k=>(numsL E i).getD k 0|none=>(cntF E i:Int)]
theorem numsL_len (E:Nat→Nat→Bool):∀i,(numsL E i).length=i
  |0=>rfl
  |i+1=>by rw [numsL,List.length_append,numsL_len E i];rfl
theorem cntF_le (E:Nat→Nat→Bool):∀i,cntF E i≤i
  |0=>Nat.le_refl _
  |i+1=>by rw [cntF];have:=cntF_le E i;split <;> omega
theorem nseen_congr {E E':Nat→Nat→Bool} {i:Nat} (h:∀a,a<i→E a i=E' a i):nseen E i=nseen E' i:=by
  unfold nseen
  have:∀l:List Nat,(∀a∈l,a<i)→l.find? (fun k=>E k i)=l.find? (fun k=>E' k i):=fun l=>by
    induction l with
    |nil=>intro _;rfl
    |cons a l ih=>
      intro hl
      rw [List.find?_cons,List.find?_cons,h a (hl a (by simp)),ih (fun x hx=>hl x (List.mem_cons_of_mem _ hx))]
  exact this _ (fun a ha=>List.mem_range.1 ha)
theorem nums_congr {E E':Nat→Nat→Bool}:∀{n:Nat},(∀a b,a<b→b<n→E a b=E' a b)→numsL E n=numsL E' n∧cntF E n=cntF E' n
  |0,_=>⟨rfl,rfl⟩
  |n+1,h=>by
    obtain ⟨h1,h2⟩:=nums_congr (n:=n) (fun a b x y=>h a b x (by omega))
    have h3:=nseen_congr (E:=E) (E':=E') (i:=n) (fun a ha=>h a n ha (by omega))
    rw [numsL,numsL,cntF,cntF,h1,h2,h3]
    exact ⟨rfl,rfl⟩
def Er (r:Nat→Int) (a b:Nat):Bool:=decide (r a=r b)
structure NumI (r:Nat→Int) (i:Nat) (m:List (Int×Int)):Prop where
  len:m.length=cntF (Er r) i
  get:∀p,mget m p=((List.range i).find? (fun k=>decide (r k=p))).map (fun k=>(numsL (Er r) i).getD k 0)
theorem NumI.start (r:Nat→Int):NumI r 0 []:=⟨rfl,fun p=>rfl⟩
theorem NumI.some_ {r:Nat→Int} {i:Nat} {m:List (Int×Int)} (h:NumI r i m):mget m (r i)=(nseen (Er r) i).map (fun k=>(numsL (Er r) i).getD k 0):=h.get (r i)
theorem find_snoc {p:Nat→Bool} {i:Nat}:(List.range (i+1)).find? p=((List.range i).find? p).or (if p i then some i else none):=by
  rw [List.range_succ,List.find?_append]
  congr 1
  cases h:p i <;> simp [h]
theorem getD_keep {l:List Int} {x:Int} {k:Nat} (h:k<l.length):(l++[x]).getD k 0=l.getD k 0:=by
  rw [List.getD_eq_getElem?_getD,List.getElem?_append_left h,←List.getD_eq_getElem?_getD]
theorem NumI.keep {r:Nat→Int} {i:Nat} {m:List (Int×Int)} (h:NumI r i m) (hs:(mget m (r i)).isSome=true):NumI r (i+1) m∧numsL (Er r) (i+1)=numsL (Er r) i++[(mget m (r i)).getD 0]:=by
  have hg:=h.some_
  cases hn:nseen (Er r) i with
  |none=>rw [hn] at hg;rw [hg] at hs;cases hs
  |some k=>
    have e1:numsL (Er r) (i+1)=numsL (Er r) i++[(mget m (r i)).getD 0]:=by
      rw [numsL,hg,hn];rfl
    refine ⟨⟨by rw [cntF,hn];simpa using h.len,fun p=> ?_⟩,e1⟩
    rw [h.get p,find_snoc]
    cases hf:(List.range i).find? (fun k=>decide (r k=p)) with
    |some q=>
      have hq:q<i:=List.mem_range.1 (List.mem_of_find?_eq_some hf)
      show some ((numsL (Er r) i).getD q 0)=some ((numsL (Er r) (i+1)).getD q 0)
      rw [e1,getD_keep (l:=numsL (Er r) i) (k:=q) (by rw [numsL_len (Er r) i];exact hq)]
    |none=>
      have hne:¬r i=p:=fun e=>by
        unfold nseen at hn
        have:(List.range i).find? (fun k=>Er r k i)=(List.range i).find? (fun k=>decide (r k=p)):=by
          congr 1;funext k;unfold Er;rw [e]
        rw [this,hf] at hn;cases hn
      simp [hne]
theorem NumI.put {r:Nat→Int} {i:Nat} {m:List (Int×Int)} (h:NumI r i m) (hs:(mget m (r i)).isSome=false):NumI r (i+1) (mput m (r i) (m.length:Int))∧numsL (Er r) (i+1)=numsL (Er r) i++[(m.length:Int)]:=by
  have hg:=h.some_
  cases hn:nseen (Er r) i with
  |some k=>rw [hn] at hg;rw [hg] at hs;cases hs
  |none=>
    have e1:numsL (Er r) (i+1)=numsL (Er r) i++[(m.length:Int)]:=by rw [numsL,hn,h.len]
    have hnk:r i ∉ m.map (·.1):=fun hm=>by
      rw [mget_isSome.2 hm] at hs;cases hs
    refine ⟨⟨?_,fun p=> ?_⟩,e1⟩
    · have hk := congrArg List.length (mput_keys m (r i) (m.length : Int))
      rw [List.length_map,if_neg hnk,List.length_append,List.length_map] at hk
      rw [hk,cntF,hn,h.len];rfl
    · rw [mget_mput, find_snoc]
      by_cases e:r i=p
      · have hf:(List.range i).find? (fun k=>decide (r k=p))=none:=by
          rw [← hn];unfold nseen;congr 1;funext k;unfold Er;rw [e]
        rw [if_pos e,hf]
        simp only [Option.none_or,e,decide_true,if_true,Option.map_some]
        rw [e1,List.getD_eq_getElem?_getD,List.getElem?_append_right (by rw [numsL_len];exact Nat.le_refl _),numsL_len,Nat.sub_self];rfl
      · rw [if_neg e, h.get p]
        simp only [e,decide_false,Bool.false_eq_true,if_false,Option.or_none]
        cases hf:(List.range i).find? (fun k=>decide (r k=p)) with
        |none=>rfl
        |some q=>
          have hq:q<i:=List.mem_range.1 (List.mem_of_find?_eq_some hf)
          show some ((numsL (Er r) i).getD q 0)=some ((numsL (Er r) (i+1)).getD q 0)
          rw [e1,getD_keep (l:=numsL (Er r) i) (k:=q) (by rw [numsL_len (Er r) i];exact hq)]
inductive EqC (L:List (Int×Int)):Int→Int→Prop
  |refl (a:Int):EqC L a a
  |step {a b c:Int}:EqC L a b→(b,c)∈L∨(c,b)∈L→EqC L a c
theorem EqC.trans {L:List (Int×Int)} {a b c:Int} (h:EqC L a b) (k:EqC L b c):EqC L a c:=by
  induction k with
  |refl=>exact h
  |step _ h1 ih=>exact .step ih h1
theorem EqC.symm {L:List (Int×Int)} {a b:Int} (h:EqC L a b):EqC L b a:=by
  induction h with
  |refl=>exact .refl _
  |step _ h1 ih=>exact (EqC.step (.refl _) h1.symm).trans ih
theorem EqC.mono {L L':List (Int×Int)} (hL:∀x∈L,x∈L') {a b:Int} (h:EqC L a b):EqC L' a b:=by
  induction h with
  |refl=>exact .refl _
  |step _ h1 ih=>exact .step ih (h1.imp (hL _) (hL _))
structure UC (L u:List (Int×Int)):Prop where
  ok:UOk u
  conn:∀a b,0≤a→0≤b→(find u a=find u b↔EqC L a b)
  pos:∀q∈L,0≤q.1∧0≤q.2
theorem UC.nil:UC [] []:=by
  refine ⟨fun k p h=>(by cases h),fun a b h0 h1=> ?_,fun q h=>(by cases h)⟩
  rw [find_none rfl,find_none rfl]
  constructor
  · rintro rfl;exact .refl _
  · intro h; cases h with
    |refl=>rfl
    |step _ h1=>rcases h1 with h1|h1 <;> cases h1
theorem UC.step {L u:List (Int×Int)} (h:UC L u) {i k:Int} (hi:0≤i) (hk:0≤k):UC (L++[(i,k)]) (joinU u i k):=by
  have hL:∀x∈L,x∈L++[(i,k)]:=fun x hx=>List.mem_append_left _ hx
  have hik:EqC (L++[(i,k)]) i k:= .step (.refl _) (.inl (by simp))
  have hC:∀x y,0≤x→0≤y→find u x=find u y→EqC (L++[(i,k)]) x y:=fun x y hx hy e=>((h.conn x y hx hy).1 e).mono hL
  have hpos:∀q∈L++[(i,k)],0≤q.1∧0≤q.2:=fun q hq=>by
    rcases List.mem_append.1 hq with hq|hq
    · exact h.pos q hq
    · simp at hq;subst hq;exact ⟨hi,hk⟩
  refine ⟨joinU_ok h.ok hi hk,fun a b h0 h1=> ?_,hpos⟩
  rw [find_join h.ok hi hk a h0,find_join h.ok hi hk b h1]
  constructor
  · intro e
    have hin:∀x,0≤x→find u x=max (find u i) (find u k)→EqC (L++[(i,k)]) x i:=fun x hx e=>by
      rcases Int.le_total (find u i) (find u k) with hle|hle
      · exact (hC x k hx hk (by omega)).trans hik.symm
      · exact hC x i hx hi (by omega)
    have hin2:∀x,0≤x→find u x=min (find u i) (find u k)→EqC (L++[(i,k)]) x i:=fun x hx e=>by
      rcases Int.le_total (find u i) (find u k) with hle|hle
      · exact hC x i hx hi (by omega)
      · exact (hC x k hx hk (by omega)).trans hik.symm
    split at e
    · rename_i e1
      split at e
      · rename_i e2;exact (hin a h0 e1).trans (hin b h1 e2).symm
      · exact (hin a h0 e1).trans (hin2 b h1 e.symm).symm
    · split at e
      · rename_i e2;exact (hin2 a h0 e).trans (hin b h1 e2).symm
      · exact hC a b h0 h1 e
  · intro c
    have hstep:∀x y,(x,y)∈L++[(i,k)]→(find u x=find u y∨((find u x=find u i∨find u x=find u k)∧(find u y=find u i∨find u y=find u k))):=fun x y hm=>by
      rcases List.mem_append.1 hm with hm|hm
      · left;exact (h.conn x y (h.pos _ hm).1 (h.pos _ hm).2).2 (.step (.refl _) (.inl hm))
      · simp at hm;obtain ⟨rfl,rfl⟩:=hm;exact .inr ⟨.inl rfl,.inr rfl⟩
    clear h1
    induction c with
    |refl=>rfl
    |step _ h3 ih=>
      rw [ih]
      rename_i b' c' _
      have:(find u b'=find u c'∨((find u b'=find u i∨find u b'=find u k)∧(find u c'=find u i∨find u c'=find u k))):=by
        rcases h3 with h3|h3
        · exact hstep _ _ h3
        · rcases hstep _ _ h3 with e | e
          · exact .inl e.symm
          · exact .inr ⟨e.2,e.1⟩
      split <;> split <;> omega
def rstep (F:List V3) (a:Nat) (l:List Int) (b:Nat):List Int:=if nearF F a b then l.set a (min (l.getD a 0) (l.getD b 0)) else l
def rrow (F:List V3) (n:Nat) (l:List Int) (a:Nat):List Int:=(List.range n).foldl (rstep F a) l
def rsweep (F:List V3) (n:Nat) (l:List Int):List Int:=(List.range n).foldl (rrow F n) l
def labs (F:List V3) (n:Nat):Nat→List Int
  |0=>(List.range n).map (fun i:Nat=>(i:Int))
  |k+1=>rsweep F n (labs F n k)
structure Ple (l' l:List Int):Prop where
  len:l'.length=l.length
  le:∀j,l'.getD j 0≤l.getD j 0
theorem Ple.refl (l:List Int):Ple l l:=⟨rfl,fun j=>Int.le_refl _⟩
theorem Ple.trans {a b c:List Int} (h:Ple a b) (k:Ple b c):Ple a c:=⟨h.len.trans k.len,fun j=>Int.le_trans (h.le j) (k.le j)⟩
theorem getD_set {l:List Int} {a j:Nat} {x:Int}:(l.set a x).getD j 0=if a=j∧j<l.length then x else l.getD j 0:=by
  rw [List.getD_eq_getElem?_getD,List.getElem?_set,List.getD_eq_getElem?_getD]
  by_cases h:a=j
  · subst h
    by_cases h2:a<l.length
    · simp [h2]
    · simp [h2]
  · simp [h]
theorem rstep_le (F:List V3) (a b:Nat) (l:List Int):Ple (rstep F a l b) l:=by
  unfold rstep
  split
  · refine ⟨by simp, fun j => ?_⟩
    rw [getD_set]
    split
    · rename_i h;rw [← h.1];exact Int.min_le_left _ _
    · exact Int.le_refl _
  · exact Ple.refl _
theorem foldl_ple {σ:Type} {f:List Int→σ→List Int} (hf:∀l s,Ple (f l s) l):∀(A:List σ) (l:List Int),Ple (A.foldl f l) l
  |[],l=>Ple.refl _
  |s :: A,l=>(foldl_ple hf A (f l s)).trans (hf l s)
theorem foldl_hit {σ:Type} {f:List Int→σ→List Int} (hf:∀l s,Ple (f l s) l) {s:σ} {a:Nat} {B:Int}:∀(A:List σ) (l:List Int),s∈A→(∀l',Ple l' l→(f l' s).getD a 0≤B)→(A.foldl f l).getD a 0≤B
  |t :: A,l,hm,h=>by
    rw [List.foldl_cons]
    rcases List.mem_cons.1 hm with e|e
    · subst e
      exact Int.le_trans ((foldl_ple hf A (f l s)).le a) (h l (Ple.refl _))
    · exact foldl_hit hf A (f l t) e (fun l' hl'=>h l' (hl'.trans (hf l t)))
theorem rrow_le (F:List V3) (n a:Nat) (l:List Int):Ple (rrow F n l a) l:=foldl_ple (fun l b=>rstep_le F a b l) _ _
theorem rsweep_le (F:List V3) (n:Nat) (l:List Int):Ple (rsweep F n l) l:=foldl_ple (fun l a=>rrow_le F n a l) _ _
theorem rsweep_near {F:List V3} {n a b:Nat} {l:List Int} (ha:a<n) (hb:b<n) (hl:l.length=n) (h:nearF F a b=true):(rsweep F n l).getD a 0≤l.getD b 0:=by
  refine foldl_hit (f:=rrow F n) (fun l a=>rrow_le F n a l) (s:=a) _ _ (List.mem_range.2 ha) (fun l1 h1=> ?_)
  refine foldl_hit (f:=rstep F a) (fun l b=>rstep_le F a b l) (s:=b) _ _ (List.mem_range.2 hb) (fun l2 h2=> ?_)
  have hlen:l2.length=n:=by rw [h2.len,h1.len,hl]
  unfold rstep
  rw [if_pos h,getD_set,if_pos ⟨rfl,by omega⟩]
  exact Int.le_trans (Int.min_le_right _ _) ((h2.trans h1).le b)
theorem labs_len (F:List V3) (n:Nat):∀k,(labs F n k).length=n
  |0=>by simp [labs]
  |k+1=>by rw [labs,(rsweep_le F n _).len,labs_len F n k]
inductive Cls (F:List V3) (n:Nat):Nat→Nat→Prop
  |refl (a:Nat):Cls F n a a
  |step {a b c:Nat}:Cls F n a b→b<n→c<n→nearF F c b=true→Cls F n a c
theorem share_iff {f g:V3} (hf:deg f=false):2≤common f g↔∃p q,p≠q∧hasV f p=true∧hasV f q=true∧hasV g p=true∧hasV g q=true:=by
  have h0:=deg_iff.1 hf
  obtain ⟨x,y,z⟩:=f
  simp only at h0
  have hfv:∀w,hasV (x,y,z) w=true↔x=w∨y=w∨z=w:=fun w=>by simp [hasV]
  unfold common
  simp only
  constructor
  · intro h
    by_cases h1:hasV g x=true <;> by_cases h2:hasV g y=true <;> by_cases h3:hasV g z=true <;> simp only [h1,h2,h3,if_true,if_false,Bool.false_eq_true] at h <;>
      first
      |(exfalso;revert h;decide)
      |exact ⟨x,y,h0.1,(hfv x).2 (.inl rfl),(hfv y).2 (.inr (.inl rfl)),h1,h2⟩
      |exact ⟨y,z,h0.2.1,(hfv y).2 (.inr (.inl rfl)),(hfv z).2 (.inr (.inr rfl)),h2,h3⟩
      |exact ⟨z,x,h0.2.2,(hfv z).2 (.inr (.inr rfl)),(hfv x).2 (.inl rfl),h3,h1⟩
  · rintro ⟨p, q, hpq, a, b, c, d⟩
    rcases (hfv p).1 a with rfl|rfl|rfl <;> rcases (hfv q).1 b with rfl|rfl|rfl <;> first|exact absurd rfl hpq|(simp only [c,d,if_true];split <;> omega)
theorem near_symm {F:List V3} (hd:∀f∈F,deg f=false) {a b:Nat} (ha:a<F.length) (hb:b<F.length) (h:nearF F a b=true):nearF F b a=true:=by
  unfold nearF at*
  simp only [decide_eq_true_eq,Int.toNat_natCast] at*
  obtain ⟨p,q,h1,h2,h3,h4,h5⟩:=(share_iff (hd _ (getD_mem _ ha))).1 h
  exact (share_iff (hd _ (getD_mem _ hb))).2 ⟨p,q,h1,h4,h5,h2,h3⟩
theorem Cls.trans {F:List V3} {n a b c:Nat} (h:Cls F n a b) (k:Cls F n b c):Cls F n a c:=by
  induction k with
  |refl=>exact h
  |step _ h1 h2 h3 ih=>exact .step ih h1 h2 h3
theorem Cls.symm {F:List V3} (hd:∀f∈F,deg f=false) {n a b:Nat} (hn:n≤F.length) (h:Cls F n a b):Cls F n b a:=by
  induction h with
  |refl=>exact .refl _
  |step _ h1 h2 h3 ih=>exact (Cls.step (.refl _) h2 h1 (near_symm hd (by omega) (by omega) h3)).trans ih
theorem labs_conv {F:List V3} {n m:Nat} (hm:m<n) {b:Nat} (hb:b<n) (h:Cls F n m b):(labs F n n).getD b 0≤(m:Int):=by
  let T:Nat→List Nat:=fun k=>(List.range n).filter (fun a=>decide ((labs F n k).getD a 0≤(m:Int)))
  have hT:∀k a,a∈T k↔a<n∧(labs F n k).getD a 0≤(m:Int):=fun k a=>by
    show a∈(List.range n).filter _↔_
    rw [List.mem_filter,List.mem_range,decide_eq_true_eq]
  have hnd:∀k,(T k).Nodup:=fun k=>List.Pairwise.filter _ List.nodup_range
  have hmono:∀k a,a∈T k→a∈T (k+1):=fun k a ha=>by
    rw [hT] at ha ⊢
    exact ⟨ha.1,Int.le_trans ((rsweep_le F n _).le a) ha.2⟩
  have h0:∀k,m∈T k:=fun k=>by
    induction k with
    |zero=>rw [hT];exact ⟨hm,by simp [labs,List.getD,hm]⟩
    |succ k ih=>exact hmono k m ih
  have hgrow:∀k,(∃j,j≤k∧∀a∈T (j+1),a∈T j)∨k+1≤(T k).length:=fun k=>by
    induction k with
    |zero=>exact .inr (List.length_pos_of_mem (h0 0))
    |succ k ih=>
      rcases ih with ⟨j,j1,j2⟩|ih
      · exact .inl ⟨j,by omega,j2⟩
      · by_cases hc : ∀ a ∈ T (k + 1), a ∈ T k
        · exact .inl ⟨k,by omega,hc⟩
        · have : (T k).length < (T (k + 1)).length := Decidable.byContradiction fun hlt => hc ((sub_iff_len (hnd k) (hnd (k + 1)) (hmono k)).2 hlt)
          exact .inr (by omega)
  have hle:(T n).length≤n:=Nat.le_trans (List.length_filter_le _ _) (by simp)
  obtain ⟨j,j1,j2⟩:∃j,j≤n∧∀a∈T (j+1),a∈T j:=by
    rcases hgrow n with h|h
    · exact h
    · omega
  have hcl:∀b,Cls F n m b→b<n→b∈T j:=fun b hb=>by
    induction hb with
    |refl=>intro _;exact h0 j
    |step _ h1 h2 h3 ih=>
      intro _
      have hx:=(hT j _).1 (ih h1)
      refine j2 _ ((hT (j+1) _).2 ⟨h2,?_⟩)
      exact Int.le_trans (rsweep_near h2 h1 (labs_len F n j) h3) hx.2
  have hup:∀d,b∈T (j+d):=fun d=>by
    induction d with
    |zero=>exact hcl b h hb
    |succ d ih=>exact hmono _ _ ih
  have:=(hT n b).1 (by have:=hup (n - j);rwa [show j+(n - j)=n by omega] at this)
  exact this.2
def LC (F:List V3) (n:Nat) (l:List Int):Prop:=l.length=n∧∀a,a<n→0≤l.getD a 0∧l.getD a 0<n∧Cls F n (l.getD a 0).toNat a
theorem LC.step {F:List V3} {n a b:Nat} {l:List Int} (h:LC F n l) (ha:a<n) (hb:b<n):LC F n (rstep F a l b):=by
  unfold rstep
  split
  · rename_i hne
    refine ⟨by simpa using h.1,fun c hc=> ?_⟩
    rw [getD_set]
    split
    · rename_i e
      obtain ⟨rfl,_⟩:=e
      have h1:=h.2 a ha
      have h2:=h.2 b hb
      rcases Int.le_total (l.getD a 0) (l.getD b 0) with hle|hle
      · rw [Int.min_eq_left hle];exact h1
      · rw [Int.min_eq_right hle];exact ⟨h2.1,h2.2.1,.step h2.2.2 hb ha hne⟩
    · exact h.2 c hc
  · exact h
theorem foldl_lc {F:List V3} {n:Nat} {f:List Int→Nat→List Int} (hf:∀l s,s<n→LC F n l→LC F n (f l s)):∀(A:List Nat) (l:List Int),(∀s∈A,s<n)→LC F n l→LC F n (A.foldl f l)
  |[],l,_,h=>h
  |s :: A,l,hA,h=>foldl_lc hf A (f l s) (fun x hx=>hA x (List.mem_cons_of_mem _ hx)) (hf l s (hA s (by simp)) h)
theorem labs_lc (F:List V3) (n:Nat):∀k,LC F n (labs F n k)
  |0=>⟨by simp [labs],fun a ha=>by
    have e:(labs F n 0).getD a 0=(a:Int):=by simp [labs,List.getD,ha]
    rw [e];exact ⟨by omega,by omega,by rw [Int.toNat_natCast];exact .refl _⟩⟩
  |k+1=>foldl_lc (fun l a ha hl=>foldl_lc (fun l b hb hl=>hl.step ha hb) _ l (fun s hs=>List.mem_range.1 hs) hl) _ _ (fun s hs=>List.mem_range.1 hs) (labs_lc F n k)
theorem labs_iff {F:List V3} (hd:∀f∈F,deg f=false) {a b:Nat} (ha:a<F.length) (hb:b<F.length):(labs F F.length F.length).getD a 0=(labs F F.length F.length).getD b 0↔Cls F F.length a b:=by
  have h:=labs_lc F F.length F.length
  have h1:=h.2 a ha
  have h2:=h.2 b hb
  constructor
  · intro e
    refine (h1.2.2.symm hd (Nat.le_refl _)).trans ?_
    rw [e];exact h2.2.2
  · intro hc
    have h3:=labs_conv (F:=F) (n:=F.length) (m:=((labs F F.length F.length).getD b 0).toNat) (by omega) ha (h2.2.2.trans (hc.symm hd (Nat.le_refl _)))
    have h4:=labs_conv (F:=F) (n:=F.length) (m:=((labs F F.length F.length).getD a 0).toNat) (by omega) hb (h1.2.2.trans hc)
    omega
def partsL (F:List V3):List Int:=numsL (Er (fun a=>(labs F F.length F.length).getD a 0)) F.length
theorem parts_of {F:List V3} (hd:∀f∈F,deg f=false) {r:Nat→Int} (h:∀a b,a<F.length→b<F.length→(r a=r b↔Cls F F.length a b)):numsL (Er r) F.length=partsL F:=by
  refine (nums_congr (fun a b hab hb=> ?_)).1
  unfold Er
  rw [decide_eq_decide,h a b (by omega) hb,labs_iff hd (by omega) hb]
def sl (F:List V3) (k:Int×Int):List Int:=(mget (sides F) k).getD []
theorem foldS_get:∀(A:List ((Int×Int)×Int)) (M:List ((Int×Int)×List Int)) (k:Int×Int),(mget (A.foldl sideS M) k).getD []=(mget M k).getD []++(A.filter (fun q=>decide (q.1=k))).map (·.2)
  |[],M,k=>by simp
  |a :: A,M,k=>by
    rw [List.foldl_cons,foldS_get A (sideS M a) k]
    unfold sideS
    rw [mget_mput]
    by_cases h:a.1=k
    · simp [h]
    · simp [h]
theorem sl_mem {F:List V3} {k:Int×Int} {i:Int}:i∈sl F k↔(k,i)∈ps F:=by
  unfold sl sides
  rw [foldS_get]
  simp only [mget,Option.getD_none,List.nil_append,List.mem_map,List.mem_filter,decide_eq_true_eq]
  constructor
  · rintro ⟨⟨a,b⟩,⟨h1,h2⟩,h3⟩;simp only at h2 h3;rw [← h2,←h3];exact h1
  · intro h;exact ⟨(k,i),⟨h,rfl⟩,rfl⟩
theorem sl_face {F:List V3} {k:Int×Int} {i:Int}:i∈sl F k↔∃n:Nat,n<F.length∧i=(n:Int)∧∃e∈edges3 (F.getD n (0,0,0)),pl e=k:=by
  rw [sl_mem,ps,psF_mem];simp
theorem sl_ne {F:List V3} {k:Int×Int} (h:k∈(sides F).map (·.1)):0<(sl F k).length:=by
  obtain ⟨_,h2⟩:=foldP_keys (fun q:(Int×Int)×Int=>q.1) (fun (m:List ((Int×Int)×List Int)) q=>(mget m q.1).getD []++[q.2]) (ps F) [] (by simp)
  have h3:=(h2 k).1 h
  simp only [List.map_nil,List.not_mem_nil,false_or] at h3
  obtain ⟨⟨k',i⟩,hq,rfl⟩:=h3
  exact List.length_pos_of_mem (sl_mem.2 hq)
theorem key_of {F:List V3} {k:Int×Int} {i:Int} (h:i∈sl F k):k∈(sides F).map (·.1):=by
  obtain ⟨_,h2⟩:=foldP_keys (fun q:(Int×Int)×Int=>q.1) (fun (m:List ((Int×Int)×List Int)) q=>(mget m q.1).getD []++[q.2]) (ps F) [] (by simp)
  exact (h2 k).2 (.inr ⟨(k,i),sl_mem.1 h,rfl⟩)
def starP (l:List Int):List (Int×Int):=(l.drop 1).map (fun i=>(l.getD 0 0,i))
def Lof (F:List V3) (ks:List (Int×Int)):List (Int×Int):=ks.flatMap (fun k=>starP (sl F k))
theorem Lof_snoc (F:List V3) (ks:List (Int×Int)) (k:Int×Int):Lof F (ks++[k])=Lof F ks++starP (sl F k):=by simp [Lof]
theorem star_take {l:List Int} {j:Nat} (h:j<(l.drop 1).length):((l.drop 1).take (j+1)).map (fun i=>(l.getD 0 0,i))=((l.drop 1).take j).map (fun i=>(l.getD 0 0,i))++[(l.getD 0 0,(l.drop 1).getD j 0)]:=by
  rw [take_snoc 0 h,List.map_append];rfl
theorem starP_mem {l:List Int} {x y:Int} (h:(x,y)∈starP l):x∈l∧y∈l:=by
  unfold starP at h
  obtain ⟨i,hi,e⟩:=List.mem_map.1 h
  cases e
  have hy:=List.mem_of_mem_drop hi
  exact ⟨getD_mem 0 (List.length_pos_of_mem hy),hy⟩
theorem starP_of {l:List Int} {y:Int} (h:y∈l):y=l.getD 0 0∨(l.getD 0 0,y)∈starP l:=by
  cases l with
  |nil=>cases h
  |cons a t=>
    rcases List.mem_cons.1 h with e|e
    · left;simpa using e
    · right;exact List.mem_map.2 ⟨y,by simpa using e,rfl⟩
theorem edge_has {f:V3} {e:Int×Int} (h:e∈edges3 f):hasV f e.1=true∧hasV f e.2=true:=by
  unfold edges3 at h
  simp only [List.mem_cons,List.not_mem_nil,or_false] at h
  unfold hasV;simp only [decide_eq_true_eq]
  rcases h with rfl|rfl|rfl <;> simp
theorem has_edge {f:V3} {p q:Int} (hp:hasV f p=true) (hq:hasV f q=true) (hne:p≠q):∃e∈edges3 f,pl e=pl (p,q):=by
  unfold hasV at hp hq
  simp only [decide_eq_true_eq] at hp hq
  have hm:pl (q,p)=pl (p,q):=by simp only [pl,Prod.mk.injEq];omega
  unfold edges3
  rcases hp with rfl|rfl|rfl <;> rcases hq with rfl|rfl|rfl <;> first
    |exact absurd rfl hne
    |exact ⟨(f.1,f.2.1),by simp,rfl⟩
    |exact ⟨(f.2.1,f.2.2),by simp,rfl⟩
    |exact ⟨(f.2.2,f.1),by simp,rfl⟩
    |exact ⟨(f.1,f.2.1),by simp,hm⟩
    |exact ⟨(f.2.1,f.2.2),by simp,hm⟩
    |exact ⟨(f.2.2,f.1),by simp,hm⟩
theorem near_side {F:List V3} (hd:∀f∈F,deg f=false) {a b:Nat} (ha:a<F.length) (hb:b<F.length):nearF F a b=true↔∃k,(a:Int)∈sl F k∧(b:Int)∈sl F k:=by
  unfold nearF
  simp only [decide_eq_true_eq,Int.toNat_natCast]
  rw [share_iff (hd _ (getD_mem _ ha))]
  constructor
  · rintro ⟨p, q, h1, h2, h3, h4, h5⟩
    exact ⟨pl (p,q),sl_face.2 ⟨a,ha,rfl,has_edge h2 h3 h1⟩,sl_face.2 ⟨b,hb,rfl,has_edge h4 h5 h1⟩⟩
  · rintro ⟨k, h1, h2⟩
    obtain ⟨n,n1,n2,e,e1,e2⟩:=sl_face.1 h1
    obtain ⟨n',n1',n2',e',e1',e2'⟩:=sl_face.1 h2
    have:n=a:=by omega
    subst this
    have:n'=b:=by omega
    subst this
    have x:=edge_has e1
    have x':=edge_has e1'
    have hne:e.1≠e.2:=fun h=>by
      have:=deg_iff.1 (hd _ (getD_mem (0,0,0) n1))
      unfold edges3 at e1
      simp only [List.mem_cons,List.not_mem_nil,or_false] at e1
      rcases e1 with rfl|rfl|rfl <;> simp only at h <;> omega
    have hp:pl e=pl e':=e2.trans e2'.symm
    simp only [pl,Prod.mk.injEq] at hp
    have:(e.1=e'.1∧e.2=e'.2)∨(e.1=e'.2∧e.2=e'.1):=by omega
    rcases this with ⟨h3,h4⟩|⟨h3,h4⟩
    · exact ⟨e.1,e.2,hne,x.1,x.2,by rw [h3];exact x'.1,by rw [h4];exact x'.2⟩
    · exact ⟨e.1,e.2,hne,x.1,x.2,by rw [h3];exact x'.2,by rw [h4];exact x'.1⟩
theorem parts_eq {F:List V3} (hd:∀f∈F,deg f=false) {ks:List (Int×Int)} (hk:∀k,k∈(sides F).map (·.1)→k∈ks) {a b:Nat} (ha:a<F.length) (hb:b<F.length):EqC (Lof F ks) (a:Int) (b:Int)↔Cls F F.length a b:=by
  constructor
  · intro h
    have key:∀y:Int,EqC (Lof F ks) (a:Int) y→∃c:Nat,y=(c:Int)∧c<F.length∧Cls F F.length a c:=fun y hy=>by
      induction hy with
      |refl=>exact ⟨a,rfl,ha,.refl _⟩
      |step _ h1 ih=>
        rename_i x z _
        obtain ⟨c,rfl,c2,c3⟩:=ih
        have hb:∃k,(c:Int)∈sl F k∧z∈sl F k:=by
          rcases h1 with h1|h1
          · obtain ⟨k, _, h2⟩ := List.mem_flatMap.1 h1
            exact ⟨k,(starP_mem h2).1,(starP_mem h2).2⟩
          · obtain ⟨k, _, h2⟩ := List.mem_flatMap.1 h1
            exact ⟨k,(starP_mem h2).2,(starP_mem h2).1⟩
        obtain ⟨k,k1,k2⟩:=hb
        obtain ⟨d,d1,rfl,_⟩:=sl_face.1 k2
        exact ⟨d,rfl,d1,.step c3 c2 d1 ((near_side hd d1 c2).2 ⟨k,k2,k1⟩)⟩
    obtain ⟨c,c1,_,c3⟩:=key _ h
    have:c=b:=by omega
    subst this;exact c3
  · intro h
    have key:∀c,Cls F F.length a c→EqC (Lof F ks) (a:Int) (c:Int):=fun c hc=>by
      induction hc with
      |refl=>exact .refl _
      |step _ h1 h2 h3 ih=>
        obtain ⟨k,k1,k2⟩:=(near_side hd h2 h1).1 h3
        have hin:∀y,y∈sl F k→EqC (Lof F ks) ((sl F k).getD 0 0) y:=fun y hy=>by
          rcases starP_of hy with e|e
          · rw [← e];exact .refl _
          · exact .step (.refl _) (.inl (List.mem_flatMap.2 ⟨k,hk k (key_of hy),e⟩))
        exact (ih.trans (hin _ k2).symm).trans (hin _ k1)
    exact key b h
def rl (F:List V3) (a:Nat):Int:=(labs F F.length F.length).getD a 0
theorem partsL_eq (F:List V3):partsL F=numsL (Er (rl F)) F.length:=rfl
theorem numsL_rng (E:Nat→Nat→Bool):∀(i k:Nat),0≤(numsL E i).getD k 0∧(numsL E i).getD k 0≤(i:Int)
  |0,k=>by simp [numsL]
  |i+1,k=>by
    have ih:=numsL_rng E i
    have hc:=cntF_le E i
    by_cases hk:k<i
    · rw [numsL, getD_keep (l := numsL E i) (k := k) (by rw [numsL_len]; exact hk)]
      have:=ih k;omega
    · by_cases e : k = i
      · subst e
        rw [numsL,List.getD_eq_getElem?_getD,List.getElem?_append_right (by rw [numsL_len];exact Nat.le_refl _),numsL_len,Nat.sub_self]
        show 0≤(match nseen E k with|some j=>(numsL E k).getD j 0|none=>(cntF E k:Int))∧(match nseen E k with|some j=>(numsL E k).getD j 0|none=>(cntF E k:Int))≤((k+1:Nat):Int)
        split
        · rename_i j _;have:=ih j;omega
        · omega
      · rw [List.getD_eq_getElem?_getD,List.getElem?_eq_none (by rw [numsL_len];omega)];simp;omega
theorem NumI.rng {r:Nat→Int} {i:Nat} {m:List (Int×Int)} (h:NumI r i m) (p:Int):0≤(mget m p).getD 0∧(mget m p).getD 0≤(i:Int):=by
  rw [h.get p]
  cases (List.range i).find? (fun k=>decide (r k=p)) with
  |none=>simp
  |some k=>exact numsL_rng _ i k
theorem sl_rng {F:List V3} {k:Int×Int} {i:Int} (h:i∈sl F k):0≤i∧i<F.length:=by
  obtain ⟨n,h1,rfl,_⟩:=sl_face.1 h
  omega
theorem mget_of_mem {κ ν:Type} [DecidableEq κ]:∀{m:List (κ×ν)},(m.map (·.1)).Nodup→∀{e:κ×ν},e∈m→mget m e.1=some e.2
  |p :: m,hn,e,h=>by
    rw [List.map_cons,List.nodup_cons] at hn
    unfold mget
    rcases List.mem_cons.1 h with h|h
    · subst h;rw [if_pos rfl]
    · rw [if_neg (fun hp:p.1=e.1=>hn.1 (by rw [hp];exact List.mem_map_of_mem h))];exact mget_of_mem hn.2 h
theorem sides_nodup (F:List V3):((sides F).map (·.1)).Nodup:=(foldP_keys (fun q:(Int×Int)×Int=>q.1) (fun (m:List ((Int×Int)×List Int)) q=>(mget m q.1).getD []++[q.2]) (ps F) [] (by simp)).1
end Go.Proofs.Ytpdbimfnhglhpaa.Ms
namespace Go.Proofs.Ytpdbimfnhglhpaa.Ms
open Go.Proofs.Ytpdbimfnhglhpaa.Sp (T9)
set_option linter.unusedVariables false
def nor (a b c:V3):V3:=((cross a b).1+((cross b c).1+(cross c a).1),(cross a b).2.1+((cross b c).2.1+(cross c a).2.1),(cross a b).2.2+((cross b c).2.2+(cross c a).2.2))
abbrev btwP (a b p:V3):Prop:=dot p p=0∧dot a b≤0
def holds (a b c:V3):Bool:=
  if det a b c≠0 then false
  else if dot (nor a b c) (nor a b c)≠0 then decide (0≤dot (cross a b) (nor a b c)∧0≤dot (cross b c) (nor a b c)∧0≤dot (cross c a) (nor a b c))
  else decide (btwP a b (cross a b)∨btwP b c (cross b c)∨btwP c a (cross c a))
def bad (d:V3) (x:T9):Bool:=decide (det d x.1 x.2.1=0∨det d x.2.1 x.2.2=0∨det d x.2.2 x.1=0)
def side (x:T9):Int:=(det x.1 x.2.1 x.2.2).sign
def hit (d:V3) (x:T9):Int:=if (det d x.1 x.2.1).sign=side x∧(det d x.2.1 x.2.2).sign=side x∧(det d x.2.2 x.1).sign=side x then side x else 0
def cnt (d:V3) (l:List T9):Int:=sumI (l.map (hit d))
def dirK (k:Nat):V3:=(1,((k:Nat):Int),(((k*k:Nat)):Int))
def rt (u v:V3) (j:Nat):Bool:=decide (det (dirK (j+1)) u v=0)
def tri (V:List V3) (p:V3) (f:V3):T9:=(sub (pt V f.1) p,sub (pt V f.2.1) p,sub (pt V f.2.2) p)
abbrev D9:T9:=((0,0,0),(0,0,0),(0,0,0))
theorem any_snoc {f:T9→Bool} {l:List T9} {i:Nat} (h:i<l.length):(l.take (i+1)).any f=((l.take i).any f||f (l.getD i D9)):=by
  rw [take_snoc D9 h,List.any_append];simp
theorem cnt_take {d:V3} {l:List T9} {i:Nat} (h:i<l.length):cnt d (l.take (i+1))=cnt d (l.take i)+hit d (l.getD i D9):=by
  unfold cnt;rw [take_snoc D9 h,List.map_append,sumI_append];simp [sumI]
theorem sgn_rng (z:Int): -1≤z.sign∧z.sign≤1:=by
  rcases Int.lt_trichotomy z 0 with h|h|h
  · rw [Int.sign_eq_neg_one_of_neg h];decide
  · rw [h];decide
  · rw [Int.sign_eq_one_of_pos h];decide
structure CrI (d:V3) (l:List T9) (i:Nat) (z:Int):Prop where
  le:i≤l.length
  no:(l.take i).any (bad d)=false
  eq:z=cnt d (l.take i)
  lo: -(i:Int)≤z
  hi:z≤(i:Int)
theorem CrI.start (d:V3) (l:List T9):CrI d l 0 0:=⟨Nat.zero_le _,rfl,rfl,by decide,by decide⟩
theorem CrI.yes {d:V3} {l:List T9} {i:Nat} {z:Int} (h:CrI d l i z) (hi:i<l.length) (hb:bad d (l.getD i D9)=false) (hh:hit d (l.getD i D9)=side (l.getD i D9)):CrI d l (i+1) (z+side (l.getD i D9)):=by
  have hs:=sgn_rng (det (l.getD i D9).1 (l.getD i D9).2.1 (l.getD i D9).2.2)
  have h1:=h.lo;have h2:=h.hi
  unfold side at*
  exact ⟨hi,by rw [any_snoc hi,h.no,hb];rfl,by rw [cnt_take hi,hh,h.eq],by omega,by omega⟩
theorem CrI.not {d:V3} {l:List T9} {i:Nat} {z:Int} (h:CrI d l i z) (hi:i<l.length) (hb:bad d (l.getD i D9)=false) (hh:hit d (l.getD i D9)=0):CrI d l (i+1) z:=
  ⟨hi,by rw [any_snoc hi,h.no,hb];rfl,by rw [cnt_take hi,hh,←h.eq];omega,by have:=h.lo;omega,by have:=h.hi;omega⟩
theorem CrI.fin {d:V3} {l:List T9} {i:Nat} {z:Int} (h:CrI d l i z) (hi:l.length≤i):l.any (bad d)=false∧z=cnt d l:=by
  have h1:=h.no;have h2:=h.eq
  rw [List.take_of_length_le hi] at h1 h2;exact ⟨h1,h2⟩
theorem check_stars {V F:List V3} (h:check V F=0) {v:Nat} (hv:v<V.length):starB F (v:Int) (at_ F (v:Int))=true:=by
  cases e:starB F (v:Int) (at_ F (v:Int)) with
  |true=>rfl
  |false=>rw [check_star (check_form h) (check_nodup h) hv e] at h;cases h
end Go.Proofs.Ytpdbimfnhglhpaa.Ms
namespace Go.Proofs.Ytpdbimfnhglhpaa.Sp
open Go
set_option linter.unusedVariables false
set_option maxRecDepth 100000
set_option maxHeartbeats 8000000
theorem zlc {w:Int} {h:Int} {m:Int} {p:Option Addr} {n:Nat} {cap:Nat} {bb:Nat} {u:Int}:Con Try.prog 35 [.int .i64 u,.pointer (some ⟨bb,0,none⟩)] [] [atF bb 0 [.int .i64 w,.int .i64 h,.int .i64 m,.slice p n cap]] (Y:=Unit) (fun y=>True) (fun y=> .bool (decide (u<0∨m<u))) (fun y=>[]) (fun y=>[]):=by
 refine zC Try.func35 rfl rfl rfl (fun c=> ?_)
 show RunC _ _ _ _ _ [(0,.int .i64 u),(1,.pointer (some ⟨bb,0,none⟩))] [] [atF bb 0 [.int .i64 w,.int .i64 h,.int .i64 m,.slice p n cap]]
 refine zf<|za<|e_p (zd rfl)<|zi<|zc<|zJa (X:=Unit) (fun x=>True) (fun x=>[(3,.bool (decide ((u<0)∨(m<u))))]) (fun x=>[]) (fun x=>[atF bb 0 [.int .i64 w,.int .i64 h,.int .i64 m,.slice p n cap]]) ?_ ?_
 ·
  refine za<|e_mv rfl<|e_p (zD rfl rfl)<|zI rfl rfl (zL rfl) (fun h1=> ?_) (fun h1=> ?_)
  ·
   refine e_no<|e_no<|e_no<|e_no<|e_p (zn rfl rfl)<|e_p (zd rfl)<|zi ?_
   exact zS () tt9 ((.e rfl (congrArg Value.bool cbu) .n):SubM _ _) (ho:=oN) (s0 rfl)
  ·
   refine e_mv rfl<|e_p (zg Try.underlying24 rfl sz3 rfl rfl)<|e_ru (zp (j:=2) 0 ty3 rfl rfl rfl rfl)<|e_p (zMa rfl rfl)<|e_p (zn rfl rfl)<|e_p (zd rfl)<|zi ?_
   exact zS () tt9 ((.e rfl (congrArg Value.bool cbu) .n):SubM _ _) (ho:=oN) (s0 rfl)
 ·
  rintro ⟨⟩ -
  try dsimp only
  refine zU ?_
  exact zO Try.results35 () trivial (zx rfl) rfl (ho:=oN) sN
theorem zEb {w:Int} {h:Int} {m:Int} {p:Option Addr} {n:Nat} {cap:Nat} {l:List Int} {bb:Nat} (hn:l.length=n):Con Try.prog 38 [.slice p n cap,.func (.func 35) #[] #[.pointer (some ⟨bb,0,none⟩)]] [] [slF (rI .i64) p cap l,atF bb 0 [.int .i64 w,.int .i64 h,.int .i64 m,.slice p n cap]] (Y:=Int) (fun y=>(0≤y↔∃g∈l,g<0∨m<g)) (fun y=> .int .i64 y) (fun y=>[]) (fun y=>[]):=by
 refine zC Try.func38 rfl rfl rfl (fun c=> ?_)
 show RunC _ _ _ _ _ [(0,.slice p n cap),(1,.func (.func 35) #[] #[.pointer (some ⟨bb,0,none⟩)])] [] [slF (rI .i64) p cap l,atF bb 0 [.int .i64 w,.int .i64 h,.int .i64 m,.slice p n cap]]
 refine zpa 0 rfl (fun hL0=> ?_)
 refine zf<|za<|e_p (zd rfl)<|zi<|zc<|zf<|zf<|za<|e_mv rfl<|e_p (zR Try.underlying22 rfl)<|e_mv rfl<|zi<|zc<|zq<|zY (X:=Nat) (fun x:Nat=>x≤n∧∀j,j<x→¬(l.getD j 0<0∨m<l.getD j 0)) (fun x=>[(8,.int .i64 ((x:Nat):Int)),(7,.int .i64 ((n:Nat):Int)),(0,.slice p n cap),(1,.func (.func 35) #[] #[.pointer (some ⟨bb,0,none⟩)])]) (fun x=>[]) (fun x=>[slF (rI .i64) p cap l,atF bb 0 [.int .i64 w,.int .i64 h,.int .i64 m,.slice p n cap]]) (fun x:Nat=>n - x) 0 (show 0≤n∧∀j,j<0→¬(l.getD j 0<0∨m<l.getD j 0) from by exact ⟨by omega,fun j h=>by omega⟩) ((.e rfl cgs (.of rfl)):SubM _ _) (ho:=oN) ((.of [0,1] rfl):SelR _ _ _) ?_
 rintro i hI
 replace hI:i≤n∧∀j,j<i→¬(l.getD j 0<0∨m<l.getD j 0):=hI
 try dsimp only
 obtain ⟨hi,hall⟩:=hI
 refine zf<|za<|e_p (zD rfl rfl)<|zi<|zc<|zf<|zG rfl (fun h1=> ?_) (fun h1=> ?_)
 ·
  refine zw<|zc<|zf<|zq<|zf<|za<|e_mv rfl<|e_p (zd rfl)<|zi<|zc<|zf<|za<|e_mv rfl<|e_mv rfl<|e_mv rfl<|zM (x0:=(l.getD i 0)) 0 i rfl Try.underlying22 sz3 rfl rfl rfl cbs rfl rfl (gD (d:=0) om) (fun b2 o3 hok4=> ?_)
  replace hok4:=ze.1 hok4
  refine e_ru (zp (j:=0) 0 ty3 rfl rfl rfl rfl)<|zQa (first:=[]) (cap:=[.pointer (some ⟨bb,0,none⟩)]) rfl rfl rfl (.c rfl .n) ce35 (zlc (w:=w) (h:=h) (m:=m) (p:=p) (n:=n) (cap:=cap) (bb:=bb) (u:=(l.getD i 0))) (.c (j:=2) rfl .n) ?_
  rintro ⟨⟩ -
  dsimp only [aq,nq,cq]
  refine zi<|zc<|zG rfl (fun hb=> ?_) (fun hb=> ?_)
  ·
   refine zf<|za<|e_mv rfl<|e_p (zd rfl)<|zi<|zc<|zU<|zu<|zl<|zl<|zu<|zl ?_
   exact zO Try.results38 ((i:Nat):Int) (⟨fun _=>⟨l.getD i 0,Big.getD_mem om,hb⟩,fun _=>by omega⟩) (zx rfl) rfl (ho:=oN) sN
  ·
   refine zw<|zB<|zc<|za<|e_p (zv (z:=(((i+1):Nat):Int)) rfl rfl (w64 om))<|e_mv rfl<|zi<|zQ (i+1) (show (i+1)≤n∧∀j,j<(i+1)→¬(l.getD j 0<0∨m<l.getD j 0) from by refine ⟨by omega,fun j hj=> ?_⟩;by_cases e:j=i;subst e;exact hb;exact hall j om) (by show n - (i+1)<n - i;omega) (mR rfl) (ho:=oN) ((.of [1,2] rfl):SelR _ _ _)
 ·
  refine zP<|zj<|zj<|zo<|zc<|zf<|za<|e_p (zd rfl)<|zi<|zc<|zU ?_
  exact zO Try.results38 (-1) (⟨fun h=>by omega,fun ⟨g,hg,hb⟩=>by obtain ⟨j,hj,e⟩:=Big.mem_getD hg;have:=hall j om;rw [e] at this;exact absurd hb this⟩) (zx rfl) rfl (ho:=oN) sN
theorem zpb {w:Int} {h:Int} {m:Int} {p:Option Addr} {n:Nat} {cap:Nat} {l:List Int} {bb:Nat} (hn:l.length=n):Con Try.prog 34 [.slice p n cap,.func (.func 35) #[] #[.pointer (some ⟨bb,0,none⟩)]] [] [slF (rI .i64) p cap l,atF bb 0 [.int .i64 w,.int .i64 h,.int .i64 m,.slice p n cap]] (Y:=Unit) (fun y=>True) (fun y=> .bool (decide (∃g∈l,g<0∨m<g))) (fun y=>[]) (fun y=>[]):=by
 refine zC Try.func34 rfl rfl rfl (fun c=> ?_)
 show RunC _ _ _ _ _ [(0,.slice p n cap),(1,.func (.func 35) #[] #[.pointer (some ⟨bb,0,none⟩)])] [] [slF (rI .i64) p cap l,atF bb 0 [.int .i64 w,.int .i64 h,.int .i64 m,.slice p n cap]]
 refine zpa 0 rfl (fun hL0=> ?_)
 refine zf<|za<|e_p (zd rfl)<|zi<|zc<|zf<|za<|e_mv rfl<|e_mv rfl<|zFa rfl rfl (.c rfl (.c rfl .n)) ce38 (zEb (w:=w) (h:=h) (m:=m) (p:=p) (n:=n) (cap:=cap) (l:=l) (bb:=bb) (hn:=ass)) (.c (j:=0) rfl (.c (j:=1) rfl .n)) ?_
 rintro r1 hr
 dsimp only [aq,nq,cq]
 replace hr:(0≤r1↔∃g∈l,g<0∨m<g):=hr
 refine e_p (zNa rfl rfl)<|e_p (zd rfl)<|zi<|zc<|zU ?_
 exact zO Try.results34 () trivial (zx rfl) (congrArg Value.bool (decide_eq_decide.2 hr.symm)) (ho:=oN) sN
theorem zzc {w:Int} {h:Int} {m:Int} {p:Option Addr} {n:Nat} {cap:Nat} {l:List Int} (hn:l.length=n):Con Try.prog 27 [.agg #[.int .i64 w,.int .i64 h,.int .i64 m,.slice p n cap]] [] [slF (rI .i64) p cap l] (Y:=Unit) (fun y=>True) (fun y=> .int .i64 (if Bl.rok w h m l then 0 else 1)) (fun y=>[]) (fun y=>[]):=by
 refine zC Try.func27 rfl rfl rfl (fun c=> ?_)
 show RunC _ _ _ _ _ [(0,.agg #[.int .i64 w,.int .i64 h,.int .i64 m,.slice p n cap])] [] [slF (rI .i64) p cap l]
 refine zpa 0 rfl (fun hL0=> ?_)
 refine zf<|za<|zZ rfl rfl (zka rfl rfl) (fun b1=> ?_)
 refine e_p (zd rfl)<|zi<|zc<|zf<|zJa (X:=Unit) (fun x=>True) (fun x=>[(34,.bool (decide (¬((1≤w∧w≤64)∧(1≤h∧h≤64)∧(1≤m∧m≤65535)∧(n:Int)=w*h)))),(2,.int .i64 0),(1,.pointer (some ⟨b1,0,none⟩))]) (fun x=>[boxA b1 24 [.int .i64 w,.int .i64 h,.int .i64 m,.slice p n cap]]) (fun x=>[slF (rI .i64) p cap l]) ?_ ?_
 ·
  refine za<|e_p (zg Try.underlying24 rfl sz3 rfl rfl)<|e_ru (zb 0 ty3 rfl rfl rfl)<|e_p (zg Try.underlying24 rfl sz3 rfl rfl)<|e_ru (zb 0 ty3 rfl rfl rfl)<|e_p (zg Try.underlying24 rfl sz3 rfl rfl)<|e_ru (zb 0 ty3 rfl rfl rfl)<|e_p (zod rfl rfl rfl)<|e_p (zD rfl rfl)<|zI rfl rfl (zL rfl) (fun h2=> ?_) (fun h2=> ?_)
  ·
   refine e_no<|e_no<|e_no<|e_no<|e_no<|e_no<|e_p (zn rfl rfl)<|e_mv rfl<|e_no<|e_no<|e_no<|e_p (zn rfl rfl)<|e_mv rfl<|e_no<|e_no<|e_no<|e_no<|e_no<|e_no<|e_no<|e_no<|e_no<|e_p (zn rfl rfl)<|zi ?_
   exact zS () tt9 ((.e rfl (congrArg Value.bool (by exact Eq.symm (decide_eq_true om))) (.c rfl (.c rfl .n))):SubM _ _) (ho:=(o0 rfl)) (s0 rfl)
  ·
   refine e_p (zg Try.underlying24 rfl sz3 rfl rfl)<|e_ru (zb 0 ty3 rfl rfl rfl)<|e_p (zg Try.underlying24 rfl sz3 rfl rfl)<|e_ru (zb 0 ty3 rfl rfl rfl)<|e_p (zGb rfl rfl)<|e_p (zMa rfl rfl)<|e_p (zn rfl rfl)<|zI rfl rfl (zL rfl) (fun h3=> ?_) (fun h3=> ?_)
   ·
    refine e_no<|e_no<|e_no<|e_p (zn rfl rfl)<|e_mv rfl<|e_no<|e_no<|e_no<|e_no<|e_no<|e_no<|e_no<|e_no<|e_no<|e_p (zn rfl rfl)<|zi ?_
    exact zS () tt9 ((.e rfl (congrArg Value.bool (by exact Eq.symm (decide_eq_true om))) (.c rfl (.c rfl .n))):SubM _ _) (ho:=(o0 rfl)) (s0 rfl)
   ·
    refine e_p (zg Try.underlying24 rfl sz3 rfl rfl)<|e_ru (zb 0 ty3 rfl rfl rfl)<|e_p (zMa rfl rfl)<|e_p (zn rfl rfl)<|zI rfl rfl (zL rfl) (fun h4=> ?_) (fun h4=> ?_)
    ·
     refine e_no<|e_no<|e_no<|e_no<|e_no<|e_no<|e_no<|e_no<|e_no<|e_p (zn rfl rfl)<|zi ?_
     exact zS () tt9 ((.e rfl (congrArg Value.bool (by exact Eq.symm (decide_eq_true om))) (.c rfl (.c rfl .n))):SubM _ _) (ho:=(o0 rfl)) (s0 rfl)
    ·
     refine e_p (zg Try.underlying24 rfl sz22 rfl rfl)<|e_ru (zb 0 ty22 rfl rfl rfl)<|e_p (zR Try.underlying22 rfl)<|e_p (zg Try.underlying24 rfl sz3 rfl rfl)<|e_ru (zb 0 ty3 rfl rfl rfl)<|e_p (zg Try.underlying24 rfl sz3 rfl rfl)<|e_ru (zb 0 ty3 rfl rfl rfl)<|e_p (zBa (z:=(w*h)) rfl rfl (w64 (by first|omega|(have:=Bl.mul_b (x:=w) (y:=h) (m:=64) (n:=64) om om;omega))))<|e_p (zOa rfl rfl)<|e_p (zn rfl rfl)<|zi ?_
     exact zS () tt9 ((.e rfl (congrArg Value.bool (by exact decide_eq_decide.2 (by constructor <;> intro k <;> omega))) (.c rfl (.c rfl .n))):SubM _ _) (ho:=(o0 rfl)) (s0 rfl)
 ·
  rintro ⟨⟩ -
  try dsimp only
  refine zG rfl (fun h5=> ?_) (fun h5=> ?_)
  ·
   refine zf<|za<|e_p (zd rfl)<|zi<|zc<|zU<|zl ?_
   exact zO Try.results27 () trivial (zx rfl) (by rw [if_neg (fun k=>by unfold Bl.rok at k;omega)]) (ho:=oN) sN
  ·
   refine zw<|zc<|zf<|zf<|zTa 0 rfl .z<|za<|e_p (zg Try.underlying24 rfl sz22 rfl rfl)<|e_ru (zp (j:=3) 0 ty22 rfl rfl rfl rfl)<|e_p (zUa .n (.c rfl .n))<|zia rfl rfl (.c rfl (.c rfl .n)) ce34 (zpb (w:=w) (h:=h) (m:=m) (p:=p) (n:=n) (cap:=cap) (l:=l) (bb:=b1) (hn:=ass)) (.c (j:=1) rfl (.c (j:=0) rfl .n))<|zi<|zc<|zG rfl (fun hx=> ?_) (fun hx=> ?_)
   ·
    refine zf<|za<|e_p (zd rfl)<|zi<|zc<|zU<|zl ?_
    exact zO Try.results27 () trivial (zx rfl) (by rw [if_neg (fun k=>k.2.2.2.2 hx)]) (ho:=oN) sN
   ·
    refine zw<|zc<|zf<|za<|e_p (zd rfl)<|zi<|zc<|zU ?_
    exact zO Try.results27 () trivial (zx rfl) (by rw [if_pos (show Bl.rok w h m l from ⟨by omega,by omega,by omega,by omega,hx⟩)]) (ho:=oN) sN
end Go.Proofs.Ytpdbimfnhglhpaa.Sp
namespace Go.Proofs.Ytpdbimfnhglhpaa.Sp
open Go
set_option linter.unusedVariables false
set_option maxRecDepth 100000
set_option maxHeartbeats 8000000
theorem zmc {w:Int} {h:Int} {m:Int} {p:Option Addr} {n:Nat} {cap:Nat} {l:List Int} (hn:l.length=n):Con Try.prog 14 [.agg #[.int .i64 w,.int .i64 h,.int .i64 m,.slice p n cap]] [] [slF (rI .i64) p cap l] (Y:=Unit) (fun y=>True) (fun y=> .int .i64 (if Bl.rok w h m l then 0 else 1)) (fun y=>[]) (fun y=>[]):=by
 refine zC Try.func14 rfl rfl rfl (fun c=> ?_)
 show RunC _ _ _ _ _ [(0,.agg #[.int .i64 w,.int .i64 h,.int .i64 m,.slice p n cap])] [] [slF (rI .i64) p cap l]
 refine zpa 0 rfl (fun hL0=> ?_)
 refine zf<|za<|zZ rfl rfl (zka rfl rfl) (fun b1=> ?_)
 refine e_p (zd rfl)<|zi<|zc<|zf<|zJa (X:=Unit) (fun x=>True) (fun x=>[(42,.bool (decide (¬((1≤w∧w≤64)∧(1≤h∧h≤64)∧(1≤m∧m≤65535)∧(n:Int)=w*h)))),(2,.int .i64 0),(1,.pointer (some ⟨b1,0,none⟩))]) (fun x=>[boxA b1 24 [.int .i64 w,.int .i64 h,.int .i64 m,.slice p n cap]]) (fun x=>[slF (rI .i64) p cap l]) ?_ ?_
 ·
  refine za<|e_p (zg Try.underlying24 rfl sz3 rfl rfl)<|e_ru (zb 0 ty3 rfl rfl rfl)<|e_p (zD rfl rfl)<|zI rfl rfl (zL rfl) (fun h2=> ?_) (fun h2=> ?_)
  ·
   refine e_no<|e_no<|e_no<|e_p (zn rfl rfl)<|e_mv rfl<|e_no<|e_no<|e_no<|e_p (zn rfl rfl)<|e_mv rfl<|e_no<|e_no<|e_no<|e_p (zn rfl rfl)<|e_mv rfl<|e_no<|e_no<|e_no<|e_p (zn rfl rfl)<|e_mv rfl<|e_no<|e_no<|e_no<|e_p (zn rfl rfl)<|e_mv rfl<|e_no<|e_no<|e_no<|e_no<|e_no<|e_no<|e_no<|e_no<|e_no<|e_p (zn rfl rfl)<|zi ?_
   exact zS () tt9 ((.e rfl (congrArg Value.bool (by exact Eq.symm (decide_eq_true om))) (.c rfl (.c rfl .n))):SubM _ _) (ho:=(o0 rfl)) (s0 rfl)
  ·
   refine e_p (zg Try.underlying24 rfl sz3 rfl rfl)<|e_ru (zb 0 ty3 rfl rfl rfl)<|e_p (zMa rfl rfl)<|e_p (zn rfl rfl)<|zI rfl rfl (zL rfl) (fun h3=> ?_) (fun h3=> ?_)
   ·
    refine e_no<|e_no<|e_no<|e_p (zn rfl rfl)<|e_mv rfl<|e_no<|e_no<|e_no<|e_p (zn rfl rfl)<|e_mv rfl<|e_no<|e_no<|e_no<|e_p (zn rfl rfl)<|e_mv rfl<|e_no<|e_no<|e_no<|e_p (zn rfl rfl)<|e_mv rfl<|e_no<|e_no<|e_no<|e_no<|e_no<|e_no<|e_no<|e_no<|e_no<|e_p (zn rfl rfl)<|zi ?_
    exact zS () tt9 ((.e rfl (congrArg Value.bool (by exact Eq.symm (decide_eq_true om))) (.c rfl (.c rfl .n))):SubM _ _) (ho:=(o0 rfl)) (s0 rfl)
   ·
    refine e_p (zg Try.underlying24 rfl sz3 rfl rfl)<|e_ru (zb 0 ty3 rfl rfl rfl)<|e_p (zD rfl rfl)<|e_p (zn rfl rfl)<|zI rfl rfl (zL rfl) (fun h4=> ?_) (fun h4=> ?_)
    ·
     refine e_no<|e_no<|e_no<|e_p (zn rfl rfl)<|e_mv rfl<|e_no<|e_no<|e_no<|e_p (zn rfl rfl)<|e_mv rfl<|e_no<|e_no<|e_no<|e_p (zn rfl rfl)<|e_mv rfl<|e_no<|e_no<|e_no<|e_no<|e_no<|e_no<|e_no<|e_no<|e_no<|e_p (zn rfl rfl)<|zi ?_
     exact zS () tt9 ((.e rfl (congrArg Value.bool (by exact Eq.symm (decide_eq_true om))) (.c rfl (.c rfl .n))):SubM _ _) (ho:=(o0 rfl)) (s0 rfl)
    ·
     refine e_p (zg Try.underlying24 rfl sz3 rfl rfl)<|e_ru (zb 0 ty3 rfl rfl rfl)<|e_p (zMa rfl rfl)<|e_p (zn rfl rfl)<|zI rfl rfl (zL rfl) (fun h5=> ?_) (fun h5=> ?_)
     ·
      refine e_no<|e_no<|e_no<|e_p (zn rfl rfl)<|e_mv rfl<|e_no<|e_no<|e_no<|e_p (zn rfl rfl)<|e_mv rfl<|e_no<|e_no<|e_no<|e_no<|e_no<|e_no<|e_no<|e_no<|e_no<|e_p (zn rfl rfl)<|zi ?_
      exact zS () tt9 ((.e rfl (congrArg Value.bool (by exact Eq.symm (decide_eq_true om))) (.c rfl (.c rfl .n))):SubM _ _) (ho:=(o0 rfl)) (s0 rfl)
     ·
      refine e_p (zg Try.underlying24 rfl sz3 rfl rfl)<|e_ru (zb 0 ty3 rfl rfl rfl)<|e_p (zD rfl rfl)<|e_p (zn rfl rfl)<|zI rfl rfl (zL rfl) (fun h6=> ?_) (fun h6=> ?_)
      ·
       refine e_no<|e_no<|e_no<|e_p (zn rfl rfl)<|e_mv rfl<|e_no<|e_no<|e_no<|e_no<|e_no<|e_no<|e_no<|e_no<|e_no<|e_p (zn rfl rfl)<|zi ?_
       exact zS () tt9 ((.e rfl (congrArg Value.bool (by exact Eq.symm (decide_eq_true om))) (.c rfl (.c rfl .n))):SubM _ _) (ho:=(o0 rfl)) (s0 rfl)
      ·
       refine e_p (zg Try.underlying24 rfl sz3 rfl rfl)<|e_ru (zb 0 ty3 rfl rfl rfl)<|e_p (zMa rfl rfl)<|e_p (zn rfl rfl)<|zI rfl rfl (zL rfl) (fun h7=> ?_) (fun h7=> ?_)
       ·
        refine e_no<|e_no<|e_no<|e_no<|e_no<|e_no<|e_no<|e_no<|e_no<|e_p (zn rfl rfl)<|zi ?_
        exact zS () tt9 ((.e rfl (congrArg Value.bool (by exact Eq.symm (decide_eq_true om))) (.c rfl (.c rfl .n))):SubM _ _) (ho:=(o0 rfl)) (s0 rfl)
       ·
        refine e_p (zg Try.underlying24 rfl sz22 rfl rfl)<|e_ru (zb 0 ty22 rfl rfl rfl)<|e_p (zR Try.underlying22 rfl)<|e_p (zg Try.underlying24 rfl sz3 rfl rfl)<|e_ru (zb 0 ty3 rfl rfl rfl)<|e_p (zg Try.underlying24 rfl sz3 rfl rfl)<|e_ru (zb 0 ty3 rfl rfl rfl)<|e_p (zBa (z:=(w*h)) rfl rfl (w64 (by first|omega|(have:=Bl.mul_b (x:=w) (y:=h) (m:=64) (n:=64) om om;omega))))<|e_p (zOa rfl rfl)<|e_p (zn rfl rfl)<|zi ?_
        exact zS () tt9 ((.e rfl (congrArg Value.bool (by exact decide_eq_decide.2 (by constructor <;> intro k <;> omega))) (.c rfl (.c rfl .n))):SubM _ _) (ho:=(o0 rfl)) (s0 rfl)
 ·
  rintro ⟨⟩ -
  try dsimp only
  refine zG rfl (fun hc=> ?_) (fun hc=> ?_)
  ·
   refine zf<|za<|e_p (zd rfl)<|zi<|zc<|zU<|zl ?_
   exact zO Try.results14 () trivial (zx rfl) (by rw [if_neg (fun k=>by unfold Bl.rok at k;omega)]) (ho:=oN) sN
  ·
   refine zw<|zc<|zf<|zf<|za<|e_p (zd rfl)<|zi<|zc<|zq<|zY (X:=Nat) (fun x:Nat=>x≤n∧∀j,j<x→¬(l.getD j 0<0∨m<l.getD j 0)) (fun x=>[(3,.int .i64 ((x:Nat):Int)),(1,.pointer (some ⟨b1,0,none⟩))]) (fun x=>[boxA b1 24 [.int .i64 w,.int .i64 h,.int .i64 m,.slice p n cap]]) (fun x=>[slF (rI .i64) p cap l]) (fun x:Nat=>n - x) 0 (show 0≤n∧∀j,j<0→¬(l.getD j 0<0∨m<l.getD j 0) from by exact ⟨by omega,fun j h=>by omega⟩) ((.e rfl cgs (.c rfl .n)):SubM _ _) (ho:=(o0 rfl)) (s0 rfl) ?_
   rintro i hI
   replace hI:i≤n∧∀j,j<i→¬(l.getD j 0<0∨m<l.getD j 0):=hI
   try dsimp only
   obtain ⟨hi,hall⟩:=hI
   refine zf<|zf<|za<|e_mv rfl<|e_p (zg Try.underlying24 rfl sz22 rfl rfl)<|e_ru (zb 0 ty22 rfl rfl rfl)<|e_p (zR Try.underlying22 rfl)<|e_p (zD rfl rfl)<|zi<|zc<|zG rfl (fun h8=> ?_) (fun h8=> ?_)
   ·
    refine zw<|zc<|zf<|zq<|zJa (X:=Unit) (fun x=>True) (fun x=>[(65,.bool (decide (l.getD i 0<0∨m<l.getD i 0))),(3,.int .i64 ((i:Nat):Int)),(1,.pointer (some ⟨b1,0,none⟩))]) (fun x=>[boxA b1 24 [.int .i64 w,.int .i64 h,.int .i64 m,.slice p n cap]]) (fun x=>[slF (rI .i64) p cap l]) ?_ ?_
    ·
     refine zsa (OW:=[]) (O:=[boxA b1 24 [.int .i64 w,.int .i64 h,.int .i64 m,.slice p n cap]]) 100000 mixed (.then (.block (.then (.then (.block (.then .ret)))))) kr<|e_pv 0 rfl rfl (zg Try.underlying24 rfl sz22 rfl rfl)<|e_u 1 rfl rfl (zb 0 ty22 rfl rfl rfl)<|e_dm 2 rfl rfl rfl<|zza (x0:=(l.getD i 0)) 3 rfl rfl kr kr 0 i rfl Try.underlying22 sz3 rfl rfl rfl cbs rfl rfl (gD (d:=0) (by first|omega|(have:=Bl.mul_b (x:=w) (y:=h) (m:=64) (n:=64) om om;omega))) (fun b9 o10 hok11=> ?_)
     replace hok11:=ze.1 hok11
     refine e_u 4 rfl rfl (zp (j:=0) 0 ty3 rfl rfl rfl rfl)<|e_pv 5 rfl rfl (zD rfl rfl)<|zYc 6 rfl rfl kr kr rfl rfl (zL rfl) (fun h12=> ?_) (fun h12=> ?_)
     ·
      refine e_skip 7 rfl rfl<|e_skip 8 rfl rfl<|e_skip 9 rfl rfl<|e_skip 10 rfl rfl<|e_skip 11 rfl rfl<|e_skip 12 rfl rfl<|e_skip 13 rfl rfl<|e_skip 14 rfl rfl<|e_pv 15 rfl rfl (zn rfl rfl)<|zra kr ?_
      exact zS () tt9 ((.e rfl (congrArg Value.bool (by exact Eq.symm (decide_eq_true om))) (.c rfl (.c rfl .n))):SubM _ _) (ho:=(o0 rfl)) ((.c (j:=1) rfl .n):SelR _ _ _)
     ·
      refine e_pv 7 rfl rfl (zg Try.underlying24 rfl sz22 rfl rfl)<|e_u 8 rfl rfl (zb 0 ty22 rfl rfl rfl)<|e_dm 9 rfl rfl rfl<|zza (x0:=(l.getD i 0)) 10 rfl rfl kr kr 1 i rfl Try.underlying22 sz3 rfl rfl rfl cbs rfl rfl (gD (d:=0) (by first|omega|(have:=Bl.mul_b (x:=w) (y:=h) (m:=64) (n:=64) om om;omega))) (fun b13 o14 hok15=> ?_)
      replace hok15:=ze.1 hok15
      refine e_u 11 rfl rfl (zp (j:=0) 0 ty3 rfl rfl rfl rfl)<|e_pv 12 rfl rfl (zg Try.underlying24 rfl sz3 rfl rfl)<|e_u 13 rfl rfl (zb 0 ty3 rfl rfl rfl)<|e_pv 14 rfl rfl (zMa rfl rfl)<|e_pv 15 rfl rfl (zn rfl rfl)<|zra kr ?_
      exact zS () tt9 ((.e rfl (congrArg Value.bool (by exact decide_eq_decide.2 (by constructor <;> intro k <;> omega))) (.c rfl (.c rfl .n))):SubM _ _) (ho:=(o0 rfl)) ((.c (j:=2) rfl .n):SelR _ _ _)
    ·
     rintro ⟨⟩ -
     try dsimp only
     refine zG rfl (fun hx=> ?_) (fun hx=> ?_)
     ·
      refine zf<|za<|e_p (zd rfl)<|zi<|zc<|zU<|zu<|zl<|zl<|zu<|zl ?_
      exact zO Try.results14 () trivial (zx rfl) (by rw [if_neg (fun k=>k.2.2.2.2 ⟨l.getD i 0,Big.getD_mem om,hx⟩)]) (ho:=oN) sN
     ·
      refine zw<|zB<|zc<|za<|e_mv rfl<|e_p (zv (z:=(((i+1):Nat):Int)) rfl rfl (w64 (by first|omega|(have:=Bl.mul_b (x:=w) (y:=h) (m:=64) (n:=64) om om;omega))))<|e_p (zd rfl)<|zi<|zQ (i+1) (show (i+1)≤n∧∀j,j<(i+1)→¬(l.getD j 0<0∨m<l.getD j 0) from by refine ⟨by omega,fun j hj=> ?_⟩;by_cases e:j=i;subst e;exact hx;exact hall j om) (by show n - (i+1)<n - i;omega) ((.c rfl (.c rfl .n)):SubM _ _) (ho:=(o0 rfl)) (s0 rfl)
   ·
    refine zP<|zj<|zj<|zo<|zc<|zf<|za<|e_p (zd rfl)<|zi<|zc<|zU ?_
    exact zO Try.results14 () trivial (zx rfl) (by rw [if_pos (show Bl.rok w h m l from ⟨by omega,by omega,by omega,by omega,fun ⟨g,hg,hb⟩=>by obtain ⟨j,hj,e⟩:=Big.mem_getD hg;have:=hall j om;rw [e] at this;exact absurd hb this⟩)]) (ho:=oN) sN
theorem zAb {w:Int} {h:Int} {m:Int} {p:Option Addr} {n:Nat} {cap:Nat} {l:List Int} {th:Int} (hn:l.length=n):Con Try.prog 15 [.agg #[.int .i64 w,.int .i64 h,.int .i64 m,.slice p n cap],.int .i64 th] [] [slF (rI .i64) p cap l] (Y:=Unit) (fun y=>True) (fun y=> .int .i64 (if Bl.rok w h m l then (if 0≤th∧th≤65536 then 0 else 2) else 1)) (fun y=>[]) (fun y=>[]):=by
 refine zC Try.func15 rfl rfl rfl (fun c=> ?_)
 show RunC _ _ _ _ _ [(0,.agg #[.int .i64 w,.int .i64 h,.int .i64 m,.slice p n cap]),(1,.int .i64 th)] [] [slF (rI .i64) p cap l]
 refine zpa 0 rfl (fun hL0=> ?_)
 refine zf<|za<|zZ rfl rfl (zka rfl rfl) (fun b1=> ?_)
 refine e_p (zd rfl)<|zi<|zc<|zf<|zf<|za<|e_ru (zm 0 ty24 rfl rfl (.t4 .nil))<|zia rfl rfl (.c rfl .n) ce27 (zzc (w:=w) (h:=h) (m:=m) (p:=p) (n:=n) (cap:=cap) (l:=l) (hn:=ass)) (.c (j:=0) rfl .n)<|e_p (zd rfl)<|zi<|zc<|zf<|za<|e_mv rfl<|e_p (zOa rfl rfl)<|zi<|zc<|zG rfl (fun hc=> ?_) (fun hc=> ?_)
 ·
  have hno:¬Bl.rok w h m l:=fun k=>hc (if_pos k)
  refine zf<|za<|e_mv rfl<|e_p (zd rfl)<|zi<|zc<|zU<|zl ?_
  exact zO Try.results15 () trivial (zx rfl) (by simp only [if_neg hno]) (ho:=oN) sN
 ·
  have hok:Bl.rok w h m l:=Bl.c0.1 (Decidable.not_not.1 hc)
  refine zw<|zc<|zf<|zJa (X:=Unit) (fun x=>True) (fun x=>[(16,.bool (decide (¬(0≤th∧th≤65536)))),(4,.int .i64 0)]) (fun x=>[boxA b1 24 [.int .i64 w,.int .i64 h,.int .i64 m,.slice p n cap]]) (fun x=>[slF (rI .i64) p cap l]) ?_ ?_
  ·
   refine za<|e_mv rfl<|e_p (zD rfl rfl)<|zI rfl rfl (zL rfl) (fun h2=> ?_) (fun h2=> ?_)
   ·
    refine e_no<|e_no<|e_p (zn rfl rfl)<|zi ?_
    exact zS () tt9 ((.e rfl (congrArg Value.bool (by exact Eq.symm (decide_eq_true om))) (.c rfl .n)):SubM _ _) (ho:=(o0 rfl)) (s0 rfl)
   ·
    refine e_mv rfl<|e_p (zMa rfl rfl)<|e_p (zn rfl rfl)<|zi ?_
    exact zS () tt9 ((.e rfl (congrArg Value.bool (by exact decide_eq_decide.2 (by constructor <;> intro k <;> omega))) (.c rfl .n)):SubM _ _) (ho:=(o0 rfl)) (s0 rfl)
  ·
   rintro ⟨⟩ -
   try dsimp only
   refine zG rfl (fun ht=> ?_) (fun ht=> ?_)
   ·
    refine zf<|za<|e_p (zd rfl)<|zi<|zc<|zU<|zl ?_
    exact zO Try.results15 () trivial (zx rfl) (by rw [if_pos hok,if_neg ht]) (ho:=oN) sN
   ·
    refine zw<|zc<|zf<|za<|e_p (zd rfl)<|zi<|zc<|zU ?_
    exact zO Try.results15 () trivial (zx rfl) (by rw [if_pos hok,if_pos (Decidable.not_not.1 ht)]) (ho:=oN) sN
theorem zAc {w:Int} {h:Int} {m:Int} {p:Option Addr} {n:Nat} {cap:Nat} {l:List Int} {th:Int} (hn:l.length=n):Con Try.prog 5 [.agg #[.int .i64 w,.int .i64 h,.int .i64 m,.slice p n cap],.int .i64 th] [] [slF (rI .i64) p cap l] (Y:=Unit) (fun y=>True) (fun y=> .int .i64 (if Bl.rok w h m l then (if 0≤th∧th≤65536 then 0 else 2) else 1)) (fun y=>[]) (fun y=>[]):=by
 refine zC Try.func5 rfl rfl rfl (fun c=> ?_)
 show RunC _ _ _ _ _ [(0,.agg #[.int .i64 w,.int .i64 h,.int .i64 m,.slice p n cap]),(1,.int .i64 th)] [] [slF (rI .i64) p cap l]
 refine zpa 0 rfl (fun hL0=> ?_)
 refine zf<|za<|zZ rfl rfl (zka rfl rfl) (fun b1=> ?_)
 refine e_p (zd rfl)<|zi<|zc<|zf<|za<|e_ru (zm 0 ty24 rfl rfl (.t4 .nil))<|zia rfl rfl (.c rfl .n) ce14 (zmc (w:=w) (h:=h) (m:=m) (p:=p) (n:=n) (cap:=cap) (l:=l) (hn:=ass)) (.c (j:=0) rfl .n)<|e_p (zd rfl)<|zi<|zc<|zf<|zf<|za<|e_mv rfl<|e_p (zOa rfl rfl)<|zi<|zc<|zG rfl (fun hc=> ?_) (fun hc=> ?_)
 ·
  have hno:¬Bl.rok w h m l:=fun k=>hc (if_pos k)
  refine zf<|za<|e_mv rfl<|e_p (zd rfl)<|zi<|zc<|zU<|zl ?_
  exact zO Try.results5 () trivial (zx rfl) (by simp only [if_neg hno]) (ho:=oN) sN
 ·
  have hok:Bl.rok w h m l:=Bl.c0.1 (Decidable.not_not.1 hc)
  refine zw<|zc<|zf<|zJa (X:=Unit) (fun x=>True) (fun x=>[(16,.bool (decide (¬(0≤th∧th≤65536)))),(4,.int .i64 0)]) (fun x=>[boxA b1 24 [.int .i64 w,.int .i64 h,.int .i64 m,.slice p n cap]]) (fun x=>[slF (rI .i64) p cap l]) ?_ ?_
  ·
   refine za<|e_mv rfl<|e_p (zD rfl rfl)<|zI rfl rfl (zL rfl) (fun h2=> ?_) (fun h2=> ?_)
   ·
    refine e_no<|e_no<|e_p (zn rfl rfl)<|zi ?_
    exact zS () tt9 ((.e rfl (congrArg Value.bool (by exact Eq.symm (decide_eq_true om))) (.c rfl .n)):SubM _ _) (ho:=(o0 rfl)) (s0 rfl)
   ·
    refine e_mv rfl<|e_p (zMa rfl rfl)<|e_p (zn rfl rfl)<|zi ?_
    exact zS () tt9 ((.e rfl (congrArg Value.bool (by exact decide_eq_decide.2 (by constructor <;> intro k <;> omega))) (.c rfl .n)):SubM _ _) (ho:=(o0 rfl)) (s0 rfl)
  ·
   rintro ⟨⟩ -
   try dsimp only
   refine zG rfl (fun ht=> ?_) (fun ht=> ?_)
   ·
    refine zf<|za<|e_p (zd rfl)<|zi<|zc<|zU<|zl ?_
    exact zO Try.results5 () trivial (zx rfl) (by rw [if_pos hok,if_neg ht]) (ho:=oN) sN
   ·
    refine zw<|zc<|zf<|za<|e_p (zd rfl)<|zi<|zc<|zU ?_
    exact zO Try.results5 () trivial (zx rfl) (by rw [if_pos hok,if_pos (Decidable.not_not.1 ht)]) (ho:=oN) sN
end Go.Proofs.Ytpdbimfnhglhpaa.Sp
namespace Go.Proofs.Ytpdbimfnhglhpaa.Sp
open Go
set_option linter.unusedVariables false
set_option maxRecDepth 100000
set_option maxHeartbeats 8000000
theorem zBc {ar1:Int} {le1:Int} {tp1:Int} {rt1:Int} {bt1:Int} {sx1:Int} {sy1:Int} {xx1:Int} {xy1:Int} {yy1:Int} {ms1:Int} {mx1:Int} {my1:Int} {ar2:Int} {le2:Int} {tp2:Int} {rt2:Int} {bt2:Int} {sx2:Int} {sy2:Int} {xx2:Int} {xy2:Int} {yy2:Int} {ms2:Int} {mx2:Int} {my2:Int} (hb1:Bl.bd ar1 le1 tp1 rt1 bt1 sx1 sy1 xx1 xy1 yy1 ms1 mx1 my1) (hb2:Bl.bd ar2 le2 tp2 rt2 bt2 sx2 sy2 xx2 xy2 yy2 ms2 mx2 my2):Con Try.prog 17 [.agg #[.int .i64 ar1,.int .i64 le1,.int .i64 tp1,.int .i64 rt1,.int .i64 bt1,.int .i64 sx1,.int .i64 sy1,.int .i64 xx1,.int .i64 xy1,.int .i64 yy1,.int .i64 ms1,.int .i64 mx1,.int .i64 my1],.agg #[.int .i64 ar2,.int .i64 le2,.int .i64 tp2,.int .i64 rt2,.int .i64 bt2,.int .i64 sx2,.int .i64 sy2,.int .i64 xx2,.int .i64 xy2,.int .i64 yy2,.int .i64 ms2,.int .i64 mx2,.int .i64 my2]] [] [] (Y:=Unit) (fun y=>True) (fun y=> .agg #[.int .i64 (ar1+ar2),.int .i64 (min le1 le2),.int .i64 (min tp1 tp2),.int .i64 (max rt1 rt2),.int .i64 (max bt1 bt2),.int .i64 (sx1+sx2),.int .i64 (sy1+sy2),.int .i64 (xx1+xx2),.int .i64 (xy1+xy2),.int .i64 (yy1+yy2),.int .i64 (ms1+ms2),.int .i64 (mx1+mx2),.int .i64 (my1+my2)]) (fun y=>[]) (fun y=>[]):=by
 refine zC Try.func17 rfl rfl rfl (fun c=> ?_)
 show RunC _ _ _ _ _ [(0,.agg #[.int .i64 ar1,.int .i64 le1,.int .i64 tp1,.int .i64 rt1,.int .i64 bt1,.int .i64 sx1,.int .i64 sy1,.int .i64 xx1,.int .i64 xy1,.int .i64 yy1,.int .i64 ms1,.int .i64 mx1,.int .i64 my1]),(1,.agg #[.int .i64 ar2,.int .i64 le2,.int .i64 tp2,.int .i64 rt2,.int .i64 bt2,.int .i64 sx2,.int .i64 sy2,.int .i64 xx2,.int .i64 xy2,.int .i64 yy2,.int .i64 ms2,.int .i64 mx2,.int .i64 my2])] [] []
 unfold Bl.bd at hb1 hb2
 refine zf<|za<|zZ rfl rfl (zka rfl rfl) (fun b1=> ?_)
 refine zZ rfl rfl (zka rfl rfl) (fun b2=> ?_)
 refine zZ rfl rfl (zF zr51 rfl) (fun b3=> ?_)
 refine zi<|zc<|zf<|za<|e_p (zg Try.underlying51 rfl sz3 rfl rfl)<|e_ru (zb 2 ty3 rfl rfl rfl)<|e_p (zg Try.underlying51 rfl sz3 rfl rfl)<|e_ru (zb 1 ty3 rfl rfl rfl)<|e_p (zv (z:=(ar1+ar2)) rfl rfl (w64 om))<|e_p (zg Try.underlying51 rfl sz3 rfl rfl)<|e_ru (zb 2 ty3 rfl rfl rfl)<|e_p (zg Try.underlying51 rfl sz3 rfl rfl)<|e_ru (zb 1 ty3 rfl rfl rfl)<|e_p (zqc rfl rfl)<|e_p (zg Try.underlying51 rfl sz3 rfl rfl)<|e_ru (zb 2 ty3 rfl rfl rfl)<|e_p (zg Try.underlying51 rfl sz3 rfl rfl)<|e_ru (zb 1 ty3 rfl rfl rfl)<|e_p (zqc rfl rfl)<|e_p (zg Try.underlying51 rfl sz3 rfl rfl)<|e_ru (zb 2 ty3 rfl rfl rfl)<|e_p (zg Try.underlying51 rfl sz3 rfl rfl)<|e_ru (zb 1 ty3 rfl rfl rfl)<|e_p (zGb rfl rfl)<|e_p (zg Try.underlying51 rfl sz3 rfl rfl)<|e_ru (zb 2 ty3 rfl rfl rfl)<|e_p (zg Try.underlying51 rfl sz3 rfl rfl)<|e_ru (zb 1 ty3 rfl rfl rfl)<|e_p (zGb rfl rfl)<|e_p (zg Try.underlying51 rfl sz3 rfl rfl)<|e_ru (zb 2 ty3 rfl rfl rfl)<|e_p (zg Try.underlying51 rfl sz3 rfl rfl)<|e_ru (zb 1 ty3 rfl rfl rfl)<|e_p (zv (z:=(sx1+sx2)) rfl rfl (w64 om))<|e_p (zg Try.underlying51 rfl sz3 rfl rfl)<|e_ru (zb 2 ty3 rfl rfl rfl)<|e_p (zg Try.underlying51 rfl sz3 rfl rfl)<|e_ru (zb 1 ty3 rfl rfl rfl)<|e_p (zv (z:=(sy1+sy2)) rfl rfl (w64 om))<|e_p (zg Try.underlying51 rfl sz3 rfl rfl)<|e_ru (zb 2 ty3 rfl rfl rfl)<|e_p (zg Try.underlying51 rfl sz3 rfl rfl)<|e_ru (zb 1 ty3 rfl rfl rfl)<|e_p (zv (z:=(xx1+xx2)) rfl rfl (w64 om))<|e_p (zg Try.underlying51 rfl sz3 rfl rfl)<|e_ru (zb 2 ty3 rfl rfl rfl)<|e_p (zg Try.underlying51 rfl sz3 rfl rfl)<|e_ru (zb 1 ty3 rfl rfl rfl)<|e_p (zv (z:=(xy1+xy2)) rfl rfl (w64 om))<|e_p (zg Try.underlying51 rfl sz3 rfl rfl)<|e_ru (zb 2 ty3 rfl rfl rfl)<|e_p (zg Try.underlying51 rfl sz3 rfl rfl)<|e_ru (zb 1 ty3 rfl rfl rfl)<|e_p (zv (z:=(yy1+yy2)) rfl rfl (w64 om))<|e_p (zg Try.underlying51 rfl sz3 rfl rfl)<|e_ru (zb 2 ty3 rfl rfl rfl)<|e_p (zg Try.underlying51 rfl sz3 rfl rfl)<|e_ru (zb 1 ty3 rfl rfl rfl)<|e_p (zv (z:=(ms1+ms2)) rfl rfl (w64 om))<|e_p (zg Try.underlying51 rfl sz3 rfl rfl)<|e_ru (zb 2 ty3 rfl rfl rfl)<|e_p (zg Try.underlying51 rfl sz3 rfl rfl)<|e_ru (zb 1 ty3 rfl rfl rfl)<|e_p (zv (z:=(mx1+mx2)) rfl rfl (w64 om))<|e_p (zg Try.underlying51 rfl sz3 rfl rfl)<|e_ru (zb 2 ty3 rfl rfl rfl) ?_
 refine e_p (zg Try.underlying51 rfl sz3 rfl rfl)<|e_ru (zb 1 ty3 rfl rfl rfl)<|e_p (zv (z:=(my1+my2)) rfl rfl (w64 om))<|e_p (zca zr51 rfl Try.underlying51 (.c sz3 (.c sz3 (.c sz3 (.c sz3 (.c sz3 (.c sz3 (.c sz3 (.c sz3 (.c sz3 (.c sz3 (.c sz3 (.c sz3 (.c sz3 .n))))))))))))) (.c rfl (.c rfl (.c rfl (.c rfl (.c rfl (.c rfl (.c rfl (.c rfl (.c rfl (.c rfl (.c rfl (.c rfl (.c rfl .n))))))))))))) (.c rfl rfl rfl (.take .nil) (.c rfl rfl rfl (.skip (.take .nil)) (.c rfl rfl rfl (.s2 (.take .nil)) (.c rfl rfl rfl (.s2 (.skip (.take .nil))) (.c rfl rfl rfl (.s4 (.take .nil)) (.c rfl rfl rfl (.s4 (.skip (.take .nil))) (.c rfl rfl rfl (.s4 (.s2 (.take .nil))) (.c rfl rfl rfl (.s4 (.s2 (.skip (.take .nil)))) (.c rfl rfl rfl (.s8 (.take .nil)) (.c rfl rfl rfl (.s8 (.skip (.take .nil))) (.c rfl rfl rfl (.s8 (.s2 (.take .nil))) (.c rfl rfl rfl (.s8 (.s2 (.skip (.take .nil)))) (.c rfl rfl rfl (.s8 (.s4 (.take .nil))) .n))))))))))))))<|zE 0 rfl rfl rfl rfl rfl sz51 rfl (.t8 (.t4 (.take .nil))) .z<|zi<|zc<|zU ?_
 exact zO Try.results17 () trivial (zPa 0 ty51 rfl rfl (.t8 (.t4 (.take .nil)))) rfl (ho:=oN) sN
theorem zsb {g:Int} {th:Int} {tb:Nat}:Con Try.prog 28 [.int .i64 g,.pointer (some ⟨tb,0,none⟩)] [] [atF tb 0 [.int .i64 th]] (Y:=Unit) (fun y=>True) (fun y=> .bool (decide (th≤g))) (fun y=>[]) (fun y=>[]):=by
 refine zC Try.func28 rfl rfl rfl (fun c=> ?_)
 show RunC _ _ _ _ _ [(0,.int .i64 g),(1,.pointer (some ⟨tb,0,none⟩))] [] [atF tb 0 [.int .i64 th]]
 refine zf<|za<|e_p (zd rfl)<|zi<|zc<|zf<|za<|e_mv rfl<|e_ru (zp (j:=0) 0 ty3 rfl rfl rfl rfl)<|e_p (zNa rfl rfl)<|e_p (zd rfl)<|zi<|zc<|zU ?_
 exact zO Try.results28 () trivial (zx rfl) rfl (ho:=oN) sN
theorem zJb {g:Int} {th:Int} {tb:Nat}:Con Try.prog 19 [.int .i64 g,.pointer (some ⟨tb,0,none⟩)] [] [atF tb 0 [.int .i64 th]] (Y:=Unit) (fun y=>True) (fun y=> .bool (decide (g<th))) (fun y=>[]) (fun y=>[]):=by
 refine zC Try.func19 rfl rfl rfl (fun c=> ?_)
 show RunC _ _ _ _ _ [(0,.int .i64 g),(1,.pointer (some ⟨tb,0,none⟩))] [] [atF tb 0 [.int .i64 th]]
 refine zf<|za<|e_p (zd rfl)<|zi<|zc<|zf<|za<|e_mv rfl<|e_ru (zp (j:=0) 0 ty3 rfl rfl rfl rfl)<|e_p (zD rfl rfl)<|e_p (zd rfl)<|zi<|zc<|zU ?_
 exact zO Try.results19 () trivial (zx rfl) rfl (ho:=oN) sN
end Go.Proofs.Ytpdbimfnhglhpaa.Sp
namespace Go.Proofs.Ytpdbimfnhglhpaa.Sp
open Go
set_option linter.unusedVariables false
set_option maxRecDepth 100000
set_option maxHeartbeats 8000000
theorem zbd:Con Try.prog 29 [] [] [] (Y:=(Option Addr)×Nat) (fun y=>True) (fun y=> .slice (y.1) 4 (y.2)) (fun y=>[]) (fun y=>[slF (rI2 .i64) (y.1) (y.2) ([((1:Int),(0:Int)),(-1,0),(0,1),(0,-1)])]):=by
 refine zC Try.func29 rfl rfl rfl (fun c=> ?_)
 show RunC _ _ _ _ _ [] [] []
 refine zf<|za<|e_p (zd rfl)<|zi<|zc<|zf<|za<|e_p (zA zr67 rfl Try.underlying67 sz3 (.c rfl (.c rfl .n)) (.c rfl rfl rfl (.take .nil) (.c rfl rfl rfl (.skip (.take .nil)) .n)))<|e_p (zA zr67 rfl Try.underlying67 sz3 (.c rfl (.c rfl .n)) (.c rfl rfl rfl (.take .nil) (.c rfl rfl rfl (.skip (.take .nil)) .n)))<|e_p (zA zr67 rfl Try.underlying67 sz3 (.c rfl (.c rfl .n)) (.c rfl rfl rfl (.take .nil) (.c rfl rfl rfl (.skip (.take .nil)) .n)))<|e_p (zA zr67 rfl Try.underlying67 sz3 (.c rfl (.c rfl .n)) (.c rfl rfl rfl (.take .nil) (.c rfl rfl rfl (.skip (.take .nil)) .n)))<|zwa rfl rfl (zt (enc:=fun z:Int×Int=>[.int .i64 z.1,.int .i64 z.2]) (ok:=fun z=>InK .i64 z.1∧InK .i64 z.2) (h1:=fun _=>rfl) (h2:=fun _=>rfl) (k:=4) Try.underlying59 inf67 rfl dd dd dd (.c (x:=(1,0)) rfl rfl (fun _ _=>by exact ⟨ze.2 (by first|omega|decide|(dsimp only;omega)),ze.2 (by first|omega|decide|(dsimp only;omega))⟩) (.c (x:=((-1),0)) rfl rfl (fun _ _=>by exact ⟨ze.2 (by first|omega|decide|(dsimp only;omega)),ze.2 (by first|omega|decide|(dsimp only;omega))⟩) (.c (x:=(0,1)) rfl rfl (fun _ _=>by exact ⟨ze.2 (by first|omega|decide|(dsimp only;omega)),ze.2 (by first|omega|decide|(dsimp only;omega))⟩) (.c (x:=(0,(-1))) rfl rfl (fun _ _=>by exact ⟨ze.2 (by first|omega|decide|(dsimp only;omega)),ze.2 (by first|omega|decide|(dsimp only;omega))⟩) .n))))) (fun b1 _=> ?_)
 refine e_p (zd rfl)<|zi<|zc<|zU<|zVa 0 rfl .z ?_
 exact zO Try.results29 (some ⟨b1,0,none⟩,4) trivial (zx rfl) rfl (ho:=oN) (s0 rfl)
end Go.Proofs.Ytpdbimfnhglhpaa.Sp
namespace Go.Proofs.Ytpdbimfnhglhpaa.Sp
open Go
set_option linter.unusedVariables false
set_option maxRecDepth 100000
set_option maxHeartbeats 8000000
theorem zPc:Con Try.prog 29 [] [] [] (Y:=(Option Addr)×Nat) (fun y=>True) (fun y=> .slice (y.1) 4 (y.2)) (fun y=>[rowA 67 (rI2 .i64) (y.1) (y.2) ([((1:Int),(0:Int)),(-1,0),(0,1),(0,-1)])]) (fun y=>[]):=by
 refine zC Try.func29 rfl rfl rfl (fun c=> ?_)
 show RunC _ _ _ _ _ [] [] []
 refine zf<|za<|e_p (zd rfl)<|zi<|zc<|zf<|za<|e_p (zA zr67 rfl Try.underlying67 sz3 (.c rfl (.c rfl .n)) (.c rfl rfl rfl (.take .nil) (.c rfl rfl rfl (.skip (.take .nil)) .n)))<|e_p (zA zr67 rfl Try.underlying67 sz3 (.c rfl (.c rfl .n)) (.c rfl rfl rfl (.take .nil) (.c rfl rfl rfl (.skip (.take .nil)) .n)))<|e_p (zA zr67 rfl Try.underlying67 sz3 (.c rfl (.c rfl .n)) (.c rfl rfl rfl (.take .nil) (.c rfl rfl rfl (.skip (.take .nil)) .n)))<|e_p (zA zr67 rfl Try.underlying67 sz3 (.c rfl (.c rfl .n)) (.c rfl rfl rfl (.take .nil) (.c rfl rfl rfl (.skip (.take .nil)) .n)))<|zwa rfl rfl (zt (enc:=fun z:Int×Int=>[.int .i64 z.1,.int .i64 z.2]) (ok:=fun z=>InK .i64 z.1∧InK .i64 z.2) (h1:=fun _=>rfl) (h2:=fun _=>rfl) (k:=4) Try.underlying59 inf67 rfl dd dd dd (.c (x:=(1,0)) rfl rfl (fun _ _=>by exact ⟨ze.2 (by first|omega|decide|(dsimp only;omega)),ze.2 (by first|omega|decide|(dsimp only;omega))⟩) (.c (x:=((-1),0)) rfl rfl (fun _ _=>by exact ⟨ze.2 (by first|omega|decide|(dsimp only;omega)),ze.2 (by first|omega|decide|(dsimp only;omega))⟩) (.c (x:=(0,1)) rfl rfl (fun _ _=>by exact ⟨ze.2 (by first|omega|decide|(dsimp only;omega)),ze.2 (by first|omega|decide|(dsimp only;omega))⟩) (.c (x:=(0,(-1))) rfl rfl (fun _ _=>by exact ⟨ze.2 (by first|omega|decide|(dsimp only;omega)),ze.2 (by first|omega|decide|(dsimp only;omega))⟩) .n))))) (fun b1 _=> ?_)
 refine e_p (zd rfl)<|zi<|zc<|zU ?_
 exact zO Try.results29 (some ⟨b1,0,none⟩,4) trivial (zx rfl) rfl (ho:=(o0 rfl)) sN
theorem zQc:Con Try.prog 20 [] [] [] (Y:=(Option Addr)×Nat) (fun y=>True) (fun y=> .slice (y.1) 8 (y.2)) (fun y=>[]) (fun y=>[slF (rI2 .i64) (y.1) (y.2) ([((1:Int),(0:Int)),(-1,0),(0,1),(0,-1)]++[(1,1),(-1,1),(1,-1),(-1,-1)])]):=by
 refine zC Try.func20 rfl rfl rfl (fun c=> ?_)
 show RunC _ _ _ _ _ [] [] []
 refine zf<|za<|e_p (zd rfl)<|zi<|zc<|zf<|za<|zFa rfl rfl (.n) ce29 (zPc) (.n) ?_
 rintro ⟨p31,c32⟩ -
 dsimp only [aq,nq,cq]
 refine e_p (zA zr67 rfl Try.underlying67 sz3 (.c rfl (.c rfl .n)) (.c rfl rfl rfl (.take .nil) (.c rfl rfl rfl (.skip (.take .nil)) .n)))<|e_p (zA zr67 rfl Try.underlying67 sz3 (.c rfl (.c rfl .n)) (.c rfl rfl rfl (.take .nil) (.c rfl rfl rfl (.skip (.take .nil)) .n)))<|e_p (zA zr67 rfl Try.underlying67 sz3 (.c rfl (.c rfl .n)) (.c rfl rfl rfl (.take .nil) (.c rfl rfl rfl (.skip (.take .nil)) .n)))<|e_p (zA zr67 rfl Try.underlying67 sz3 (.c rfl (.c rfl .n)) (.c rfl rfl rfl (.take .nil) (.c rfl rfl rfl (.skip (.take .nil)) .n)))<|zwa rfl rfl (zt (enc:=fun z:Int×Int=>[.int .i64 z.1,.int .i64 z.2]) (ok:=fun z=>InK .i64 z.1∧InK .i64 z.2) (h1:=fun _=>rfl) (h2:=fun _=>rfl) (k:=4) Try.underlying59 inf67 rfl dd dd dd (.c (x:=(1,1)) rfl rfl (fun _ _=>by exact ⟨ze.2 (by first|omega|decide|(dsimp only;omega)),ze.2 (by first|omega|decide|(dsimp only;omega))⟩) (.c (x:=((-1),1)) rfl rfl (fun _ _=>by exact ⟨ze.2 (by first|omega|decide|(dsimp only;omega)),ze.2 (by first|omega|decide|(dsimp only;omega))⟩) (.c (x:=(1,(-1))) rfl rfl (fun _ _=>by exact ⟨ze.2 (by first|omega|decide|(dsimp only;omega)),ze.2 (by first|omega|decide|(dsimp only;omega))⟩) (.c (x:=((-1),(-1))) rfl rfl (fun _ _=>by exact ⟨ze.2 (by first|omega|decide|(dsimp only;omega)),ze.2 (by first|omega|decide|(dsimp only;omega))⟩) .n))))) (fun b3 _=> ?_)
 refine zua 0 rfl .z<|zna 1 rfl rfl rfl (zea 0 rfl Try.underlying59 inf67 dd rfl rfl cbs rfl cbs om om) (fun _=>(.s .z)) ?_
 rintro ⟨p4,c5⟩ -
 dsimp only [aq,nq,cq]
 refine e_p (zd rfl)<|zi<|zc<|zU<|zVa 1 rfl (.s .z) ?_
 exact zO Try.results20 (p4,c5) trivial (zx rfl) rfl (ho:=oN) (s0 rfl)
end Go.Proofs.Ytpdbimfnhglhpaa.Sp
namespace Go.Proofs.Ytpdbimfnhglhpaa.Fl
inductive Conn (inn:Nat→Prop) (adj:Nat→Nat→Prop):Nat→Nat→Prop
  |refl (i:Nat):Conn inn adj i i
  |step {i j k:Nat}:inn i→inn j→adj i j→Conn inn adj j k→Conn inn adj i k
section
variable {n : Nat} {inn : Nat → Prop} {adj : Nat → Nat → Prop}
theorem Conn.trans {i j k:Nat} (h:Conn inn adj i j) (h2:Conn inn adj j k):Conn inn adj i k:=by
  induction h with
  |refl=>exact h2
  |step a b c _ ih=>exact .step a b c (ih h2)
theorem Conn.one {i j:Nat} (hi:inn i) (hj:inn j) (h:adj i j):Conn inn adj i j:= .step hi hj h (.refl j)
theorem Conn.symm (hs:∀i j,adj i j→adj j i) {i j:Nat} (h:Conn inn adj i j):Conn inn adj j i:=by
  induction h with
  |refl=>exact .refl _
  |step a b c _ ih=>exact ih.trans (Conn.one b a (hs _ _ c))
theorem Conn.mem {i j:Nat} (h:Conn inn adj i j) (hi:inn i):inn j:=by
  induction h with
  |refl=>exact hi
  |step _ b _ _ ih=>exact ih b
structure Lst (inn:Nat→Prop) (adj:Nat→Nat→Prop) (c:Nat→Nat):Prop where
  le:∀i,inn i→c i≤i
  conn:∀i,inn i→Conn inn adj i (c i)
  same:∀i k,inn i→inn k→adj i k→c i=c k
theorem Lst.const {c:Nat→Nat} (h:Lst inn adj c) {i j:Nat} (hc:Conn inn adj i j):c i=c j:=by
  induction hc with
  |refl=>rfl
  |step a b d _ ih=>rw [h.same _ _ a b d,ih]
theorem Lst.least {c:Nat→Nat} (h:Lst inn adj c) {i j:Nat} (hi:inn i) (hc:Conn inn adj i j):c i≤j:=by
  rw [h.const hc];exact h.le _ (hc.mem hi)
theorem Lst.idem {c:Nat→Nat} (h:Lst inn adj c) {i:Nat} (hi:inn i):c (c i)=c i:=(h.const (h.conn i hi)).symm
theorem Lst.mem {c:Nat→Nat} (h:Lst inn adj c) {i:Nat} (hi:inn i):inn (c i):=(h.conn i hi).mem hi
theorem Lst.uniq {c d:Nat→Nat} (h:Lst inn adj c) (k:Lst inn adj d) {i:Nat} (hi:inn i):c i=d i:=
  Nat.le_antisymm (h.least hi (k.conn i hi)) (k.least hi (h.conn i hi))
theorem Lst.iff {c:Nat→Nat} (h:Lst inn adj c) (hs:∀i j,adj i j→adj j i) {i j:Nat} (hi:inn i) (hj:inn j):c i=c j↔Conn inn adj i j:=
  ⟨fun e=>(h.conn i hi).trans (e ▸ (h.conn j hj).symm hs),h.const⟩
theorem Lst.exists (hs:∀i j,adj i j→adj j i):∃c,Lst inn adj c:=by
  have key:∀i,∃m,Conn inn adj i m∧∀j,Conn inn adj i j→m≤j:=fun i=>by
    have:∀b,∀m,m≤b→Conn inn adj i m→∃m,Conn inn adj i m∧∀j,Conn inn adj i j→m≤j:=fun b=>by
      induction b with
      |zero=>intro m hm hc;exact ⟨m,hc,fun j _=>by omega⟩
      |succ b ih=>
        intro m hm hc
        by_cases hx:∃j,Conn inn adj i j∧j<m
        · obtain ⟨j,hj,hlt⟩:=hx;exact ih j (by omega) hj
        · exact ⟨m,hc,fun j hj=>Nat.le_of_not_lt fun hlt=>hx ⟨j,hj,hlt⟩⟩
    exact this i i (Nat.le_refl _) (.refl i)
  refine ⟨fun i=>Classical.choose (key i),fun i _=>(Classical.choose_spec (key i)).2 i (.refl i),fun i _=>(Classical.choose_spec (key i)).1,fun i k hi hk ha=> ?_⟩
  have h1:=Classical.choose_spec (key i)
  have h2:=Classical.choose_spec (key k)
  exact Nat.le_antisymm (h1.2 _ ((Conn.one hi hk ha).trans h2.1)) (h2.2 _ ((Conn.one hk hi (hs _ _ ha)).trans h1.1))
end
def cnt (q:Nat→Bool) (i:Nat):Nat:=((List.range i).filter q).length
theorem cnt_succ (q:Nat→Bool) (i:Nat):cnt q (i+1)=cnt q i+if q i then 1 else 0:=by
  unfold cnt;rw [List.range_succ,List.filter_append,List.length_append]
  by_cases h:q i=true
  · simp [h]
  · simp [h]
theorem cnt_mono (q:Nat→Bool) {i j:Nat} (h:i≤j):cnt q i≤cnt q j:=by
  induction h with
  |refl=>exact Nat.le_refl _
  |step _ ih=>rw [cnt_succ];omega
theorem cnt_lt (q:Nat→Bool) {i j:Nat} (h:i<j) (hq:q i=true):cnt q i<cnt q j:=by
  have:=cnt_mono q (show i+1≤j from h);rw [cnt_succ,if_pos hq] at this;omega
theorem cnt_le (q:Nat→Bool) (i:Nat):cnt q i≤i:=by
  induction i with
  |zero=>exact Nat.le_refl _
  |succ i ih=>rw [cnt_succ];split <;> omega
section
variable {n : Nat} {f : Nat → Bool} {adj : Nat → Nat → Prop} {c : Nat → Nat}
def ldr (f:Nat→Bool) (c:Nat→Nat) (j:Nat):Bool:=f j&&decide (c j=j)
structure OutI (n:Nat) (f:Nat→Bool) (c:Nat→Nat) (i:Nat) (o:List Int):Prop where
  len:o.length=n
  old:∀j,j<n→f j=true→c j<i→o.getD j 0=(cnt (ldr f c) (c j):Int)
  new:∀j,j<n→¬(f j=true∧c j<i)→o.getD j 0= -1
structure Fld (n:Nat) (f:Nat→Bool) (adj:Nat→Nat→Prop) (c:Nat→Nat) (i:Nat) (o:List Int) (st:List Nat):Prop where
  len:o.length=n
  old:∀j,j<n→f j=true→c j<i→o.getD j 0=(cnt (ldr f c) (c j):Int)
  new:∀j,j<n→¬(f j=true∧c j<i)→o.getD j 0= -1∨(o.getD j 0=(cnt (ldr f c) i:Int)∧f j=true∧c j=i)
  self:o.getD i 0=(cnt (ldr f c) i:Int)
  stk:∀j,j∈st→j<n∧o.getD j 0=(cnt (ldr f c) i:Int)∧f j=true∧c j=i
  cls:∀j,j<n→f j=true→c j=i→o.getD j 0=(cnt (ldr f c) i:Int)→j∈st∨∀k,k<n→f k=true→adj j k→o.getD k 0=(cnt (ldr f c) i:Int)
theorem Fld.fin {i:Nat} {o:List Int} (hc:Lst (fun j=>f j=true) adj c) (hs:∀i j,adj i j→adj j i) (hb:∀j k,adj j k→k<n) (hi:i<n) (hf:f i=true) (h:Fld n f adj c i o []):OutI n f c (i+1) o:=by
  have walk:∀j k,Conn (fun j=>f j=true) adj j k→j<n→f j=true→c j=i→o.getD j 0=(cnt (ldr f c) i:Int)→o.getD k 0=(cnt (ldr f c) i:Int):=by
    intro j k hjk
    induction hjk with
    |refl=>intro _ _ _ h;exact h
    |step a b d e ih=>
      intro hj hfj hcj ho
      rcases h.cls _ hj hfj hcj ho with hm|hm
      · cases hm
      · exact ih (hb _ _ d) b (by rw [← hcj];exact (hc.same _ _ a b d).symm) (hm _ (hb _ _ d) b d)
  refine ⟨h.len,fun j hj hfj hlt=> ?_,fun j hj hn=> ?_⟩
  · by_cases e : c j < i
    · exact h.old j hj hfj e
    · have e2 : c j = i := by omega
      rw [e2]
      have hcon:=(hc.conn j hfj).symm hs
      rw [e2] at hcon
      exact walk i j hcon hi hf (by rw [← e2];exact hc.idem hfj) h.self
  · rcases h.new j hj (fun k => hn ⟨k.1, by omega⟩) with e | e
    · exact e
    · exact absurd ⟨e.2.1,by omega⟩ hn
structure FlP (n:Nat) (f:Nat→Bool) (adj:Nat→Nat→Prop) (c:Nat→Nat) (i:Nat) (o:List Int) (st:List Nat) (p:Nat) (D:Nat→Prop):Prop where
  len:o.length=n
  old:∀j,j<n→f j=true→c j<i→o.getD j 0=(cnt (ldr f c) (c j):Int)
  new:∀j,j<n→¬(f j=true∧c j<i)→o.getD j 0= -1∨(o.getD j 0=(cnt (ldr f c) i:Int)∧f j=true∧c j=i)
  self:o.getD i 0=(cnt (ldr f c) i:Int)
  stk:∀j,j∈st→j<n∧o.getD j 0=(cnt (ldr f c) i:Int)∧f j=true∧c j=i
  pop:p<n∧f p=true∧c p=i
  cls:∀j,j<n→f j=true→c j=i→o.getD j 0=(cnt (ldr f c) i:Int)→j∈st∨∀k,k<n→f k=true→adj j k→(j=p→D k)→o.getD k 0=(cnt (ldr f c) i:Int)
theorem Fld.pop {i p:Nat} {o:List Int} {st:List Nat} (h:Fld n f adj c i o (st++[p])):FlP n f adj c i o st p (fun _=>False):=by
  have hp:=h.stk p (by simp)
  refine ⟨h.len,h.old,h.new,h.self,fun j hj=>h.stk j (by simp [hj]),⟨hp.1,hp.2.2.1,hp.2.2.2⟩,fun j hj hfj hcj ho=> ?_⟩
  rcases h.cls j hj hfj hcj ho with hm|hm
  · rcases List.mem_append.1 hm with h1 | h1
    · exact .inl h1
    · exact .inr fun k _ _ _ hD=>absurd (hD (by simpa using h1)) id
  · exact .inr fun k a b d _=>hm k a b d
theorem FlP.done {i p:Nat} {o:List Int} {st:List Nat} {D:Nat→Prop} (h:FlP n f adj c i o st p D) (hD:∀k,adj p k→D k):Fld n f adj c i o st:=
  ⟨h.len,h.old,h.new,h.self,h.stk,fun j hj hfj hcj ho=>(h.cls j hj hfj hcj ho).imp id fun hm k a b d=>hm k a b d (fun e=>hD k (e ▸ d))⟩
theorem FlP.skip {i p:Nat} {o:List Int} {st:List Nat} {D E:Nat→Prop} (h:FlP n f adj c i o st p D) (hE:∀k,E k→D k∨(k<n→f k=true→adj p k→o.getD k 0=(cnt (ldr f c) i:Int))):FlP n f adj c i o st p E:=
  ⟨h.len,h.old,h.new,h.self,h.stk,h.pop,fun j hj hfj hcj ho=>(h.cls j hj hfj hcj ho).imp id fun hm k a b d e=>by
    by_cases e2:j=p
    · rcases hE k (e e2) with h1 | h1
      · exact hm k a b d (fun _=>h1)
      · exact h1 a b (e2 ▸ d)
    · exact hm k a b d (fun e3=>absurd e3 e2)⟩
theorem FlP.seen {i p k:Nat} {o:List Int} {st:List Nat} {D:Nat→Prop} (hc:Lst (fun j=>f j=true) adj c) (h:FlP n f adj c i o st p D) (hk:k<n) (hf:f k=true) (ha:adj p k) (ho:¬o.getD k 0<0):o.getD k 0=(cnt (ldr f c) i:Int):=by
  have e:c k=i:=by rw [← hc.same p k h.pop.2.1 hf ha];exact h.pop.2.2
  rcases h.new k hk (fun x=>by omega) with h1|h1
  · omega
  · exact h1.1
theorem FlP.visit {i p k:Nat} {o:List Int} {st:List Nat} {D:Nat→Prop} (hc:Lst (fun j=>f j=true) adj c) (h:FlP n f adj c i o st p D) (hk:k<n) (hf:f k=true) (ha:adj p k) (ho:o.getD k 0<0):
    FlP n f adj c i (o.set k (cnt (ldr f c) i:Int)) (st++[k]) p (fun x=>D x∨x=k):=by
  have e:c k=i:=by rw [← hc.same p k h.pop.2.1 hf ha];exact h.pop.2.2
  have hl:=h.len
  have hs:(o.set k (cnt (ldr f c) i:Int)).getD k 0=(cnt (ldr f c) i:Int):=ya (by omega) _
  have hne:∀j,j≠k→(o.set k (cnt (ldr f c) i:Int)).getD j 0=o.getD j 0:=fun j hj=>Big.getD_set_ne hj _
  refine ⟨by rw [List.length_set];exact hl,fun j hj hfj hlt=> ?_,fun j hj hn=> ?_,?_,fun j hj=> ?_,h.pop,fun j hj hfj hcj hoj=> ?_⟩
  · rw [hne j (fun x=>by rw [x,e] at hlt;omega)];exact h.old j hj hfj hlt
  · by_cases x : j = k
    · exact .inr ⟨by rw [x];exact hs,x ▸ hf,x ▸ e⟩
    · rw [hne j x];exact h.new j hj hn
  · by_cases x : i = k
    · rw [x] at hs ⊢;exact hs
    · rw [hne i x];exact h.self
  · by_cases x : j = k
    · exact ⟨x ▸ hk,by rw [x];exact hs,x ▸ hf,x ▸ e⟩
    · rw [hne j x]
      rcases List.mem_append.1 hj with h1|h1
      · exact h.stk j h1
      · exact absurd (by simpa using h1) x
  · by_cases x : j = k
    · exact .inl (by simp [x])
    · rw [hne j x] at hoj
      rcases h.cls j hj hfj hcj hoj with h1|h1
      · exact .inl (by simp [h1])
      · refine .inr fun q a b d hD => ?_
        by_cases y:q=k
        · rw [y];exact hs
        · rw [hne q y];exact h1 q a b d (fun z=>(hD z).resolve_right y)
theorem OutI.start:OutI n f c 0 (List.replicate n (-1)):=⟨by simp,fun j _ _ h=>by omega,fun j hj _=>by simp [List.getD_eq_getElem?_getD,hj]⟩
theorem OutI.none {i:Nat} {o:List Int} (hc:Lst (fun j=>f j=true) adj c) (h:OutI n f c i o) (hi:i<n) (hx:¬o.getD i 0<0∨¬f i=true):OutI n f c (i+1) o∧ldr f c i=false:=by
  have hl:¬(f i=true∧c i=i):=fun k=>by
    rcases hx with h1|h1
    · exact h1 (by rw [h.new i hi (fun x=>by omega)];decide)
    · exact h1 k.1
  refine ⟨⟨h.len,fun j hj hf hlt=>h.old j hj hf ?_,fun j hj hn=>h.new j hj fun x=>hn ⟨x.1,by omega⟩⟩,?_⟩
  · by_cases e : c j = i
    · exact absurd ⟨e ▸ hc.mem hf,by have:=hc.idem hf;rw [e] at this;exact this⟩ hl
    · omega
  · unfold ldr
    by_cases e:f i=true
    · simp only [e,Bool.true_and];exact decide_eq_false fun k=>hl ⟨e,k⟩
    · simp [e]
theorem OutI.lead {i:Nat} {o:List Int} (hc:Lst (fun j=>f j=true) adj c) (h:OutI n f c i o) (hi:i<n) (hx:o.getD i 0<0) (hf:f i=true):Fld n f adj c i (o.set i (cnt (ldr f c) i:Int)) [i]∧ldr f c i=true:=by
  have hle:=hc.le i hf
  have hci:c i=i:=by
    by_cases e:c i<i
    · have:=h.old i hi hf e;omega
    · omega
  have hs:(o.set i (cnt (ldr f c) i:Int)).getD i 0=(cnt (ldr f c) i:Int):=ya (by rw [h.len];exact hi) _
  have hne:∀j,j≠i→(o.set i (cnt (ldr f c) i:Int)).getD j 0=o.getD j 0:=fun j hj=>Big.getD_set_ne hj _
  refine ⟨⟨by rw [List.length_set];exact h.len,fun j hj hfj hlt=> ?_,fun j hj hn=> ?_,hs,fun j hj=> ?_,fun j hj hfj hcj hoj=> ?_⟩,by simp [ldr,hf,hci]⟩
  · rw [hne j (fun e=>by rw [e,hci] at hlt;omega)];exact h.old j hj hfj hlt
  · by_cases e : j = i
    · exact .inr ⟨by rw [e];exact hs,e ▸ hf,by rw [e];exact hci⟩
    · rw [hne j e];exact .inl (h.new j hj hn)
  · have e : j = i := by simpa using hj
    subst e;exact ⟨hi,hs,hf,hci⟩
  · by_cases e : j = i
    · exact .inl (by simp [e])
    · rw [hne j e,h.new j hj (fun x=>by omega)] at hoj;omega
end
def unv (o:List Int):Nat:=o.countP (fun x=>decide (x<0))
theorem unv_set {o:List Int} {k:Nat} {v:Int} (hk:k<o.length) (ho:o.getD k 0<0) (hv:0≤v):unv (o.set k v)+1=unv o:=by
  unfold unv
  have hg:o[k]<0:=by rw [List.getD_eq_getElem?_getD,List.getElem?_eq_getElem hk] at ho;exact ho
  have hp:0<o.countP (fun x=>decide (x<0)):=List.countP_pos_iff.2 ⟨o[k],List.getElem_mem hk,by simpa using hg⟩
  rw [List.countP_set]
  rw [if_pos (by simpa using hg),if_neg (by simpa using hv)]
  omega
section
variable {n : Nat} {f : Nat → Bool} {adj : Nat → Nat → Prop} {c : Nat → Nat}
end
def nb (e:Bool) (w n j k:Nat):Prop:=
  j<n∧k<n∧j≠k∧(((j%w:Nat):Int) - (k%w:Nat)).natAbs≤1∧(((j / w:Nat):Int) - (k / w:Nat)).natAbs≤1∧(e=true∨(((j%w:Nat):Int) - (k%w:Nat)).natAbs+(((j / w:Nat):Int) - (k / w:Nat)).natAbs≤1)
theorem nb_symm {e:Bool} {w n j k:Nat} (h:nb e w n j k):nb e w n k j:=by
  unfold nb at*
  obtain ⟨h1,h2,h3,h4,h5,h6⟩:=h
  refine ⟨h2,h1,fun x=>h3 x.symm,by omega,by omega,h6.imp id fun h=>by omega⟩
theorem nb_lt {e:Bool} {w n j k:Nat} (h:nb e w n j k):k<n:=h.2.1
theorem pix {w h:Nat} {x y:Int} (hx:0≤x∧x<w) (hy:0≤y∧y<h):0≤y*w+x∧(y*w+x).toNat<w*h∧(y*w+x).toNat%w=x.toNat∧(y*w+x).toNat / w=y.toNat:=by
  obtain ⟨a,ha⟩:∃a:Nat,x=a:=⟨x.toNat,by omega⟩
  obtain ⟨b,hb⟩:∃b:Nat,y=b:=⟨y.toNat,by omega⟩
  subst ha;subst hb
  have e:((b:Int)*w+a).toNat=w*b+a:=by rw [← Int.natCast_mul,Nat.mul_comm];omega
  have hw:0<w:=by omega
  have h1:(w*b+a)%w=a:=by rw [Nat.mul_add_mod];exact Nat.mod_eq_of_lt (by omega)
  have h2:(w*b+a) / w=b:=by rw [Nat.mul_add_div hw,Nat.div_eq_of_lt (by omega)];rfl
  have h3:w*b+a<w*h:=by
    have:w*(b+1)≤w*h:=Nat.mul_le_mul_left w (by omega)
    rw [Nat.mul_add,Nat.mul_one] at this;omega
  have h4:=Int.mul_nonneg (show (0:Int)≤b by omega) (show (0:Int)≤w by omega)
  rw [e]
  exact ⟨by omega,h3,by simpa using h1,by simpa using h2⟩
section
variable {n : Nat} {f : Nat → Bool} {adj : Nat → Nat → Prop}
structure RdI (n:Nat) (f:Nat→Bool) (adj:Nat→Nat→Prop) (o:List Int):Prop where
  len:o.length=n
  lo:∀i,i<n→0≤o.getD i 0∧o.getD i 0≤i
  con:∀i,i<n→f i=true→Conn (fun j=>f j=true) adj i (o.getD i 0).toNat
  out:∀i,i<n→¬f i=true→o.getD i 0=i
theorem RdI.step {o:List Int} {i k:Nat} (h:RdI n f adj o) (hi:i<n) (hk:k<n) (hfi:f i=true) (hfk:f k=true) (ha:adj i k) (hlt:o.getD k 0<o.getD i 0):RdI n f adj (o.set i (o.getD k 0)):=by
  have hs:(o.set i (o.getD k 0)).getD i 0=o.getD k 0:=ya (by rw [h.len];exact hi) _
  have hne:∀j,j≠i→(o.set i (o.getD k 0)).getD j 0=o.getD j 0:=fun j hj=>Big.getD_set_ne hj _
  refine ⟨by rw [List.length_set];exact h.len,fun j hj=> ?_,fun j hj hf=> ?_,fun j hj hf=>by rw [hne j (fun e=>hf (e ▸ hfi))];exact h.out j hj hf⟩
  · by_cases e : j = i
    · rw [e,hs];have h1:=h.lo k hk;have h2:=h.lo i hi;omega
    · rw [hne j e];exact h.lo j hj
  · by_cases e : j = i
    · rw [e,hs];exact .step hfi hfk ha (h.con k hk hfk)
    · rw [hne j e];exact h.con j hj hf
theorem RdI.fin {o:List Int} (h:RdI n f adj o) (hn:∀i,f i=true→i<n) (hs:∀i j,adj i j→adj j i) (hx:∀i k,f i=true→f k=true→adj i k→¬o.getD k 0<o.getD i 0):Lst (fun j=>f j=true) adj (fun i=>(o.getD i 0).toNat):=
  ⟨fun i hi=>by have:=h.lo i (hn i hi);show (o.getD i 0).toNat≤i;omega,fun i hi=>h.con i (hn i hi) hi,fun i k hi hk ha=>by
    have h1:=hx i k hi hk ha;have h2:=hx k i hk hi (hs _ _ ha)
    show (o.getD i 0).toNat=(o.getD k 0).toNat;omega⟩
end
theorem nb_place {e:Bool} {w h p:Nat} {a b:Int} (hp:p<w*h) (hx:0≤((p%w:Nat):Int)+a∧((p%w:Nat):Int)+a<w) (hy:0≤((p / w:Nat):Int)+b∧((p / w:Nat):Int)+b<h)
    (ha:a.natAbs≤1) (hb:b.natAbs≤1) (h0:¬(a=0∧b=0)) (he:e=true∨a.natAbs+b.natAbs≤1):nb e w (w*h) p ((((p / w:Nat):Int)+b)*w+(((p%w:Nat):Int)+a)).toNat:=by
  obtain ⟨q0,q1,q2,q3⟩:=pix hx hy
  obtain ⟨k,hk⟩:∃k,k=((((p / w:Nat):Int)+b)*w+(((p%w:Nat):Int)+a)).toNat:=⟨_,rfl⟩
  rw [← hk] at q1 q2 q3 ⊢
  obtain ⟨u,hu⟩:∃u,u=p%w:=⟨_,rfl⟩
  obtain ⟨v,hv⟩:∃v,v=p / w:=⟨_,rfl⟩
  obtain ⟨u2,hu2⟩:∃u,u=k%w:=⟨_,rfl⟩
  obtain ⟨v2,hv2⟩:∃v,v=k / w:=⟨_,rfl⟩
  unfold nb
  rw [← hu] at q2 hx ⊢;rw [← hv] at q3 hy ⊢
  rw [← hu2] at q2 ⊢;rw [← hv2] at q3 ⊢
  refine ⟨hp,q1,fun x=> ?_,by omega,by omega,he.imp id fun y=>by omega⟩
  rw [← x,←hu] at hu2;rw [← x,←hv] at hv2
  exact h0 (by omega)
theorem nb_step {e:Bool} {w h p k:Nat} (hw:0<w) (hn:nb e w (w*h) p k):∃a b:Int,a.natAbs≤1∧b.natAbs≤1∧¬(a=0∧b=0)∧(e=true∨a.natAbs+b.natAbs≤1)∧
    (0≤((p%w:Nat):Int)+a∧((p%w:Nat):Int)+a<w)∧(0≤((p / w:Nat):Int)+b∧((p / w:Nat):Int)+b<h)∧k=((((p / w:Nat):Int)+b)*w+(((p%w:Nat):Int)+a)).toNat:=by
  obtain ⟨h1,h2,h3,h4,h5,h6⟩:=hn
  have k1:=Nat.mod_lt k hw
  have k2:k / w<h:=Nat.div_lt_of_lt_mul h2
  have k3:=Nat.div_add_mod k w
  have p3:=Nat.div_add_mod p w
  have e1:((p%w:Nat):Int)+(((k%w:Nat):Int) - (p%w:Nat))=(k%w:Nat):=by
    generalize k%w=u;generalize p%w=v;omega
  have e2:((p / w:Nat):Int)+(((k / w:Nat):Int) - (p / w:Nat))=(k / w:Nat):=by
    generalize k / w=u;generalize p / w=v;omega
  refine ⟨((k%w:Nat):Int) - (p%w:Nat),((k / w:Nat):Int) - (p / w:Nat),?_,?_,?_,?_,?_,?_,?_⟩
  · generalize k%w=u at *;generalize p%w=v at *;omega
  · generalize k / w=u at *;generalize p / w=v at *;omega
  · intro x
    have x1:k%w=p%w:=by generalize k%w=u at *;generalize p%w=v at *;omega
    have x2:k / w=p / w:=by generalize k / w=u at *;generalize p / w=v at *;omega
    rw [x1,x2] at k3;exact h3 (by omega)
  · refine h6.imp id fun y => ?_
    generalize k%w=u at *;generalize p%w=v at *;generalize k / w=u2 at *;generalize p / w=v2 at *;omega
  · rw [e1];generalize k%w=u at *;omega
  · rw [e2];generalize k / w=u at *;omega
  · rw [e1, e2, ← Int.natCast_mul, Nat.mul_comm]
    generalize w*(k / w)=s at *;generalize k%w=u at *;omega
end Go.Proofs.Ytpdbimfnhglhpaa.Fl
namespace Go.Proofs.Ytpdbimfnhglhpaa.Fl
def tot (o:List Int):Nat:=(o.map Int.toNat).sum
theorem tot_set {o:List Int} {k:Nat} {v:Int} (hk:k<o.length) (h0:0≤v) (hv:v<o.getD k 0):tot (o.set k v)<tot o:=by
  unfold tot
  induction o generalizing k with
  |nil=>simp at hk
  |cons a t ih=>
    cases k with
    |zero=>simp only [List.set_cons_zero,List.map_cons,List.sum_cons];have:v<a:=(by simpa using hv);omega
    |succ k=>
      simp only [List.set_cons_succ,List.map_cons,List.sum_cons]
      have:=ih (k:=k) (by simpa using hk) (by simpa using hv);omega
section
variable {n w : Nat} {f : Nat → Bool} {adj : Nat → Nat → Prop}
def Dn (f:Nat→Bool) (adj:Nat→Nat→Prop) (w:Nat) (o:List Int) (i:Nat) (Y X:Int):Prop:=
  ∀b a:Int,-1≤b→b≤1→ -1≤a→a≤1→(b<Y∨b=Y∧a<X)→∀k:Nat,(k:Int)=i+b*w+a→f i=true→f k=true→adj i k→¬o.getD k 0<o.getD i 0
structure Rnd (n w:Nat) (f:Nat→Bool) (adj:Nat→Nat→Prop) (o0 o:List Int) (g:Bool) (i:Nat) (Y X:Int):Prop where
  rd:RdI n f adj o
  lt:g=true→tot o<tot o0
  eq:g=false→o=o0
  old:g=false→∀j k,j<i→f j=true→f k=true→adj j k→¬o.getD k 0<o.getD j 0
  dn:g=false→Dn f adj w o i Y X
theorem Rnd.start {o:List Int} (h:RdI n f adj o):Rnd n w f adj o o false 0 (-1) (-1):=
  ⟨h,fun e=>(by cases e),fun _=>rfl,fun _ j k hj=>by omega,fun _ b a h1 _ h2 _ h3=>by omega⟩
theorem Rnd.le {o0 o:List Int} {g:Bool} {i:Nat} {Y X:Int} (h:Rnd n w f adj o0 o g i Y X):tot o≤tot o0:=by
  cases g with
  |true=>exact Nat.le_of_lt (h.lt rfl)
  |false=>rw [h.eq rfl];exact Nat.le_refl _
theorem Rnd.skip {o0 o:List Int} {g:Bool} {i:Nat} {Y X:Int} (h:Rnd n w f adj o0 o g i Y X) (hx:∀k:Nat,(k:Int)=i+Y*w+X→f i=true→f k=true→adj i k→¬o.getD k 0<o.getD i 0):Rnd n w f adj o0 o g i Y (X+1):=
  ⟨h.rd,h.lt,h.eq,h.old,fun e b a h1 h2 h3 h4 h5=>by
    by_cases h6:b=Y∧a=X
    · rw [h6.1,h6.2];exact hx
    · exact h.dn e b a h1 h2 h3 h4 (by omega)⟩
theorem Rnd.set {o0 o:List Int} {g:Bool} {i k:Nat} {Y X:Int} (h:Rnd n w f adj o0 o g i Y X) (hi:i<n) (hk:k<n) (hfi:f i=true) (hfk:f k=true) (ha:adj i k) (hlt:o.getD k 0<o.getD i 0) (Y' X':Int):Rnd n w f adj o0 (o.set i (o.getD k 0)) true i Y' X':=
  ⟨h.rd.step hi hk hfi hfk ha hlt,fun _=>Nat.lt_of_lt_of_le (tot_set (by rw [h.rd.len];exact hi) (h.rd.lo k hk).1 hlt) h.le,fun e=>(by cases e),fun e=>(by cases e),fun e=>(by cases e)⟩
theorem Rnd.row {o0 o:List Int} {g:Bool} {i:Nat} {Y X:Int} (h:Rnd n w f adj o0 o g i Y X) (hX:1<X):Rnd n w f adj o0 o g i (Y+1) (-1):=
  ⟨h.rd,h.lt,h.eq,h.old,fun e b a h1 h2 h3 h4 h5=>h.dn e b a h1 h2 h3 h4 (by omega)⟩
theorem Rnd.next {o0 o:List Int} {g:Bool} {i:Nat} {Y X:Int} (h:Rnd n w f adj o0 o g i Y X) (hY:1<Y) (hb:∀k,adj i k→∃a b:Int,-1≤a∧a≤1∧ -1≤b∧b≤1∧(k:Int)=i+b*w+a):Rnd n w f adj o0 o g (i+1) (-1) (-1):=
  ⟨h.rd,h.lt,h.eq,fun e j k hj hfj hfk ha=>by
    by_cases x:j=i
    · subst x
      obtain ⟨a,b,h1,h2,h3,h4,h5⟩:=hb k ha
      exact h.dn e b a h3 h4 h1 h2 (by omega) k h5 hfj hfk ha
    · exact h.old e j k (by omega) hfj hfk ha,fun e b a h1 _ h2 _ h3=>by omega⟩
structure Rds (n:Nat) (f:Nat→Bool) (adj:Nat→Nat→Prop) (o:List Int) (g:Bool):Prop where
  rd:RdI n f adj o
  fin:g=false→∀j k,j<n→f j=true→f k=true→adj j k→¬o.getD k 0<o.getD j 0
theorem Rds.start:Rds n f adj ((List.range n).map (fun i:Nat=>(i:Int))) true:=by
  have e:∀i,i<n→((List.range n).map (fun i:Nat=>(i:Int))).getD i 0=i:=fun i hi=>by simp [List.getD_eq_getElem?_getD,hi]
  exact ⟨⟨by simp,fun i hi=>by rw [e i hi];omega,fun i hi _=>by rw [e i hi];exact .refl _,fun i hi _=>e i hi⟩,fun e=>(by cases e)⟩
end
theorem nb_steps {e:Bool} {w h p k:Nat} (hw:0<w) (hn:nb e w (w*h) p k):∃a b:Int,-1≤a∧a≤1∧ -1≤b∧b≤1∧(k:Int)=p+b*w+a:=by
  obtain ⟨a,b,h1,h2,_,_,h3,h4,h5⟩:=nb_step hw hn
  have q:=(pix h3 h4).1
  refine ⟨a,b,by omega,by omega,by omega,by omega,?_⟩
  have hp:=Nat.div_add_mod p w
  have e1:(p:Int)=((p / w:Nat):Int)*w+((p%w:Nat):Int):=by
    rw [← Int.natCast_mul,Nat.mul_comm];generalize w*(p / w)=s at *;generalize p%w=u at *;omega
  have e2:(k:Int)=((((p / w:Nat):Int)+b)*w+(((p%w:Nat):Int)+a)):=by rw [h5];omega
  rw [e2,Int.add_mul]
  generalize ((p / w:Nat):Int)*w=A at *;generalize ((p%w:Nat):Int)=B at *;generalize b*(w:Int)=C at *;omega
end Go.Proofs.Ytpdbimfnhglhpaa.Fl
namespace Go.Proofs.Ytpdbimfnhglhpaa.Fl
def iz (j:Nat):Int:=j
def fl (l:List Bool) (j:Nat):Bool:=l.getD j false
def ge (l:List Int) (th:Int) (j:Nat):Bool:=decide (j<l.length)&&decide (th≤l.getD j 0)
def lo (l:List Int) (th:Int) (j:Nat):Bool:=decide (j<l.length)&&decide (l.getD j 0<th)
theorem ge_iff {l:List Int} {th:Int} {j:Nat} (h:j<l.length):ge l th j=true↔th≤l.getD j 0:=by simp [ge,h]
theorem lo_iff {l:List Int} {th:Int} {j:Nat} (h:j<l.length):lo l th j=true↔l.getD j 0<th:=by simp [lo,h]
theorem ge_lt {l:List Int} {th:Int} {j:Nat} (h:ge l th j=true):j<l.length:=by simp [ge] at h;exact h.1
theorem lo_lt {l:List Int} {th:Int} {j:Nat} (h:lo l th j=true):j<l.length:=by simp [lo] at h;exact h.1
section
variable {n w : Nat} {l : List Bool} {e : Bool}
def LK (e:Bool) (w j k:Nat):Prop:=(((j%w:Nat):Int) - (k%w:Nat)).natAbs≤1∧(((j / w:Nat):Int) - (k / w:Nat)).natAbs≤1∧(e=true∨(((j%w:Nat):Int) - (k%w:Nat)).natAbs+(((j / w:Nat):Int) - (k / w:Nat)).natAbs≤1)
instance (e:Bool) (w j k:Nat):Decidable (LK e w j k):=inferInstanceAs (Decidable (_∧_))
def CD (e:Bool) (w n:Nat) (l:List Bool) (o:List Int) (i:Nat) (kk:Int):Prop:=
  0≤kk∧kk<(n:Int)∧l.getD i false=true∧l.getD kk.toNat false=true∧LK e w i kk.toNat∧o.getD kk.toNat 0<o.getD i 0
instance (e:Bool) (w n:Nat) (l:List Bool) (o:List Int) (i:Nat) (kk:Int):Decidable (CD e w n l o i kk):=inferInstanceAs (Decidable (_∧_))
theorem Rnd.yes {o0 o:List Int} {g:Bool} {i:Nat} {Y X kk:Int} (h:Rnd n w (fl l) (nb e w n) o0 o g i Y X) (hi:i<n) (hc:CD e w n l o i kk) (Y' X':Int):Rnd n w (fl l) (nb e w n) o0 (o.set i (o.getD kk.toNat 0)) true i Y' X':=by
  obtain ⟨h1,h2,h3,h4,h5,h6⟩:=hc
  exact h.set hi (by omega) h3 h4 ⟨hi,by omega,fun x=>by rw [← x] at h6;omega,h5⟩ h6 Y' X'
theorem Rnd.no {o0 o:List Int} {g:Bool} {i:Nat} {Y X kk:Int} (h:Rnd n w (fl l) (nb e w n) o0 o g i Y X) (hk:kk=i+Y*w+X) (hc:¬CD e w n l o i kk):Rnd n w (fl l) (nb e w n) o0 o g i Y (X+1):=
  h.skip fun k e1 e2 e3 e4 e5=>hc (by
    have e6:kk.toNat=k:=by rw [hk,←e1];rfl
    refine ⟨by omega,by have:=e4.2.1;omega,e2,by rw [e6];exact e3,by rw [e6];exact e4.2.2.2,by rw [e6];exact e5⟩)
theorem Rnd.on {h:Nat} {o0 o:List Int} {g:Bool} {i:Nat} {Y X:Int} (hw:0<w) (hn:n=w*h) (hr:Rnd n w (fl l) (nb e w n) o0 o g i Y X) (hY:1<Y):Rnd n w (fl l) (nb e w n) o0 o g (i+1) (-1) (-1):=
  hr.next hY fun k hk=>by subst hn;exact nb_steps hw hk
end
def atD (w pp:Nat) (d:Int×Int):Nat:=((((pp / w:Nat):Int)+d.2)*w+(((pp%w:Nat):Int)+d.1)).toNat
def inD (w h pp:Nat) (d:Int×Int):Prop:=0≤((pp%w:Nat):Int)+d.1∧0≤((pp / w:Nat):Int)+d.2∧((pp%w:Nat):Int)+d.1<w∧((pp / w:Nat):Int)+d.2<h
instance (w h pp:Nat) (d:Int×Int):Decidable (inD w h pp d):=inferInstanceAs (Decidable (_∧_))
def CP (w h pp:Nat) (f:Nat→Bool) (o:List Int) (d:Int×Int):Prop:=inD w h pp d∧o.getD (atD w pp d) 0<0∧f (atD w pp d)=true
instance (w h pp:Nat) (f:Nat→Bool) (o:List Int) (d:Int×Int):Decidable (CP w h pp f o d):=inferInstanceAs (Decidable (_∧_))
def Dst (w h pp:Nat) (l:List (Int×Int)) (q:Nat) (k:Nat):Prop:=∃j,j<q∧inD w h pp (l.getD j (0,0))∧k=atD w pp (l.getD j (0,0))
structure Stp (e:Bool) (l:List (Int×Int)):Prop where
  ok:∀d∈l,d.1.natAbs≤1∧d.2.natAbs≤1∧¬(d.1=0∧d.2=0)∧(e=true∨d.1.natAbs+d.2.natAbs≤1)
  all:∀a b:Int,a.natAbs≤1→b.natAbs≤1→¬(a=0∧b=0)→(e=true∨a.natAbs+b.natAbs≤1)→(a,b)∈l
theorem three {a:Int} (h:a.natAbs≤1):a= -1∨a=0∨a=1:=by omega
def st4:List (Int×Int):=[((1:Int),(0:Int)),(-1,0),(0,1),(0,-1)]
def st8:List (Int×Int):=[((1:Int),(0:Int)),(-1,0),(0,1),(0,-1)]++[(1,1),(-1,1),(1,-1),(-1,-1)]
theorem stp4:Stp false st4:=⟨by decide,fun a b h1 h2 h3 h4=>by
  rcases three h1 with e|e|e <;> rcases three h2 with k|k|k <;> subst e <;> subst k <;> first|decide|(exfalso;revert h3 h4;decide)⟩
theorem stp8:Stp true st8:=⟨by decide,fun a b h1 h2 h3 h4=>by
  rcases three h1 with e|e|e <;> rcases three h2 with k|k|k <;> subst e <;> subst k <;> first|decide|(exfalso;revert h3 h4;decide)⟩
theorem gD_mem {l:List (Int×Int)} {q:Nat} (h:q<l.length):l.getD q (0,0)∈l:=by
  rw [List.getD_eq_getElem?_getD,List.getElem?_eq_getElem h];exact List.getElem_mem h
theorem mem_gD {l:List (Int×Int)} {d:Int×Int} (h:d∈l):∃q,q<l.length∧l.getD q (0,0)=d:=by
  obtain ⟨q,hq,e⟩:=List.getElem_of_mem h
  exact ⟨q,hq,by rw [List.getD_eq_getElem?_getD,List.getElem?_eq_getElem hq];exact e⟩
theorem inD.pix {w h pp:Nat} {d:Int×Int} (hi:inD w h pp d):0≤(((pp / w:Nat):Int)+d.2)*w+(((pp%w:Nat):Int)+d.1)∧atD w pp d<w*h:=by
  have:=Fl.pix (w:=w) (h:=h) ⟨hi.1,hi.2.2.1⟩ ⟨hi.2.1,hi.2.2.2⟩;exact ⟨this.1,this.2.1⟩
theorem inD.nb {e:Bool} {w h pp q:Nat} {l:List (Int×Int)} (hs:Stp e l) (hq:q<l.length) (hp:pp<w*h) (hi:inD w h pp (l.getD q (0,0))):nb e w (w*h) pp (atD w pp (l.getD q (0,0))):=by
  obtain ⟨h1,h2,h3,h4⟩:=hs.ok _ (gD_mem hq)
  exact nb_place hp ⟨hi.1,hi.2.2.1⟩ ⟨hi.2.1,hi.2.2.2⟩ h1 h2 h3 h4
theorem at_b {w n pp:Nat} {d:Int×Int} (hw:1≤w∧w≤64) (hp:pp<n) (hn:n≤4096) (h1:d.1.natAbs≤1) (h2:d.2.natAbs≤1):
    (-64≤(((pp / w:Nat):Int)+d.2)*w∧(((pp / w:Nat):Int)+d.2)*w≤4160)∧(-1≤((pp%w:Nat):Int)+d.1∧((pp%w:Nat):Int)+d.1≤64)∧(-1≤((pp / w:Nat):Int)+d.2∧((pp / w:Nat):Int)+d.2≤4097):=by
  have e1:=Nat.div_mul_le_self pp w
  have e2:=Nat.mod_lt pp (show 0<w by omega)
  have e3:=Nat.div_le_self pp w
  have e4:(((pp / w:Nat):Int)+d.2)*w=((pp / w*w:Nat):Int)+d.2*w:=by rw [Int.add_mul,←Int.natCast_mul]
  have e5: -64≤d.2*(w:Int)∧d.2*(w:Int)≤64:=by rcases three h2 with e|e|e <;> rw [e] <;> omega
  rw [e4]
  generalize pp / w*w=A at *;generalize pp%w=B at *;generalize pp / w=C at *;generalize d.2*(w:Int)=E at *;omega
theorem Dst.none {w h pp:Nat} {l:List (Int×Int)} {k:Nat}:¬Dst w h pp l 0 k:=fun ⟨_,h,_⟩=>by omega
theorem Dst.all {e:Bool} {w h pp k:Nat} {l:List (Int×Int)} (hs:Stp e l) (hw:0<w) (hk:Fl.nb e w (w*h) pp k):Dst w h pp l l.length k:=by
  obtain ⟨a,b,h1,h2,h3,h4,h5,h6,h7⟩:=nb_step hw hk
  obtain ⟨q,hq,e1⟩:=mem_gD (hs.all a b h1 h2 h3 h4)
  exact ⟨q,hq,by rw [e1];exact ⟨h5.1,h6.1,h5.2,h6.2⟩,by rw [e1];exact h7⟩
section
variable {n w h i pp q : Nat} {f : Nat → Bool} {e : Bool} {c : Nat → Nat} {o : List Int} {st : List Nat} {l : List (Int × Int)}
theorem FlP.start (hf:Fld n f (nb e w n) c i o (st++[pp])):FlP n f (nb e w n) c i o st pp (Dst w h pp l 0):=
  hf.pop.skip fun _ hk=>absurd hk Dst.none
theorem FlP.end_ (hs:Stp e l) (hw:0<w) (hn:n=w*h) (hf:FlP n f (nb e w n) c i o st pp (Dst w h pp l l.length)):Fld n f (nb e w n) c i o st:=
  hf.done fun k hk=>by subst hn;exact Dst.all hs hw hk
theorem FlP.yes (hs:Stp e l) (hn:n=w*h) (hq:q<l.length) (hc:Lst (fun j=>f j=true) (nb e w n) c) (hf:FlP n f (nb e w n) c i o st pp (Dst w h pp l q)) (hi:inD w h pp (l.getD q (0,0))) (ho:o.getD (atD w pp (l.getD q (0,0))) 0<0) (hfk:f (atD w pp (l.getD q (0,0)))=true):
    FlP n f (nb e w n) c i (o.set (atD w pp (l.getD q (0,0))) (cnt (ldr f c) i:Int)) (st++[atD w pp (l.getD q (0,0))]) pp (Dst w h pp l (q+1))∧2*unv (o.set (atD w pp (l.getD q (0,0))) (cnt (ldr f c) i:Int))+(st++[atD w pp (l.getD q (0,0))]).length+1=2*unv o+st.length:=by
  subst hn
  have hk:=hi.pix.2
  refine ⟨(hf.visit hc hk hfk (hi.nb hs hq hf.pop.1) ho).skip fun k hD=> .inl ?_,?_⟩
  · obtain ⟨j, h1, h2, h3⟩ := hD
    by_cases e:j=q
    · right;rw [h3,e]
    · left;exact ⟨j,by omega,h2,h3⟩
  · have := unv_set (by rw [hf.len]; exact hk) ho (v := (cnt (ldr f c) i : Int)) (by omega)
    rw [List.length_append];simp only [List.length_cons,List.length_nil];omega
theorem FlP.no (hs:Stp e l) (hn:n=w*h) (hq:q<l.length) (hc:Lst (fun j=>f j=true) (nb e w n) c) (hf:FlP n f (nb e w n) c i o st pp (Dst w h pp l q)) (hx:¬(inD w h pp (l.getD q (0,0))∧o.getD (atD w pp (l.getD q (0,0))) 0<0∧f (atD w pp (l.getD q (0,0)))=true)):
    FlP n f (nb e w n) c i o st pp (Dst w h pp l (q+1)):=by
  subst hn
  refine hf.skip fun k hD=> ?_
  obtain ⟨j,h1,h2,h3⟩:=hD
  by_cases e:j=q
  · subst e; subst h3
    refine .inr fun a b d=>hf.seen hc a b d fun x=>hx ⟨h2,x,b⟩
  · exact .inl ⟨j,by omega,h2,h3⟩
end
theorem getD_iz (st:List Nat) (pp:Nat):((st++[pp]).map iz).getD st.length 0=(pp:Int):=by
  rw [List.map_append,List.getD_eq_getElem?_getD,List.getElem?_append_right (by simp)];simp [iz]
theorem snoc {sk:List Nat} (h:sk≠[]):∃st pp,sk=st++[pp]:=⟨_,_,(List.dropLast_concat_getLast h).symm⟩
theorem unv_le (o:List Int):unv o≤o.length:=List.countP_le_length
structure Lab (n:Nat) (f:Nat→Bool) (adj:Nat→Nat→Prop) (o:List Int):Prop where
  len:o.length=n
  ex:∃c,Lst (fun j=>f j=true) adj c∧(∀j,j<n→f j=true→o.getD j 0=(cnt (ldr f c) (c j):Int))∧∀j,j<n→¬f j=true→o.getD j 0= -1
section
variable {n : Nat} {f : Nat → Bool} {adj : Nat → Nat → Prop} {c d : Nat → Nat} {o o2 : List Int}
theorem OutI.lab (hc:Lst (fun j=>f j=true) adj c) (hn:∀j,f j=true→j<n) (h:OutI n f c n o):Lab n f adj o:=
  ⟨h.len,c,hc,fun j hj hf=>h.old j hj hf (hn _ (hc.mem hf)),fun j hj hf=>h.new j hj fun k=>hf k.1⟩
theorem ldr_uniq (hc:Lst (fun j=>f j=true) adj c) (hd:Lst (fun j=>f j=true) adj d):ldr f c=ldr f d:=by
  funext j;unfold ldr
  by_cases h:f j=true
  · rw [hc.uniq hd h]
  · simp [h]
theorem Lab.uniq (h:Lab n f adj o) (k:Lab n f adj o2):o=o2:=by
  obtain ⟨c,hc,h1,h2⟩:=h.ex
  obtain ⟨d,hd,k1,k2⟩:=k.ex
  refine Big.ext_getD (by rw [h.len,k.len]) fun j hj=> ?_
  rw [h.len] at hj
  by_cases e:f j=true
  · rw [h1 j hj e,k1 j hj e,ldr_uniq hc hd,hc.uniq hd e]
  · rw [h2 j hj e,k2 j hj e]
end
end Go.Proofs.Ytpdbimfnhglhpaa.Fl
