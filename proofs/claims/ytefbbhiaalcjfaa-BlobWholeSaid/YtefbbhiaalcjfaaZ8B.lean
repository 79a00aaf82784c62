/- Lemmas on the walk and plain lemmas that the claim of this folder uses; each states its own conditions. Lines were printed by a program of ours. -/
import Derived.Test.YtefbbhiaalcjfaaZ8A
set_option linter.unusedVariables false
set_option linter.unusedSimpArgs false
set_option linter.unusedSectionVars false
namespace Go.Proofs.Ytefbbhiaalcjfaa.Sp
open Go
set_option linter.unusedVariables false
structure Wd where
  s:Bool
  p:Option Addr
  n:Nat
  c:Nat
@[reducible] def Wd.b (w : Wd) : Value := .bool w.s
@[reducible] def Wd.l (w : Wd) : Value := .slice w.p w.n w.c
@[reducible] def cw : List Wd → List Value
  |[]=>[]
  |w :: l=>w.b :: w.l :: cw l
def wz:Wd:=⟨false,none,0,0⟩
def Wd.is (g:Hp) (w:Wd) (z:Int):Prop:=w.s=decide (z<0)∧w.n=(Big.digs z.natAbs).length∧Sl (rI .u32) g w.p w.c (Big.digs z.natAbs)
def zF (w:Wd) (z:Int):Fa:=⟨fun g=>w.is g z,fun _ _ h k=>⟨k.1,k.2.1,k.2.2.mono h⟩⟩
def lb (n k:Nat):Array Bool:=⟨(List.range n).map (Nat.testBit k)⟩
section
variable {P : Program} {c : Cx} {n : Sz} {Q : Exit → Act → World → Prop} {m : Fm} {O : List As} {R : List Fa} {f : Nat}
theorem Mem.fact {w:World} {r:Fa} (h:∀g,Holds g R→r.on g) (mm:Mem c w O R):Mem c w O (r :: R):=
  mm.weaken fun hh g s r' a=>⟨hh,g,s,⟨h g r',r'⟩,Hp.le_refl _,Hp.le_refl _,a,fun _ _ e=> .inl e⟩
theorem ztb {e:Exit} (r:Fa) (h:∀g,Holds g R→r.on g) (k:Post c n Q e m O (r :: R)):Post c n Q e m O R:=fun a w f mm=>k a w f (mm.fact h)
theorem Mem.mapR {w:World} {R':List Fa} (h:∀g,Holds g R→Holds g R') (mm:Mem c w O R):Mem c w O R':=
  mm.weaken fun hh g s r' a=>⟨hh,g,s,h g r',Hp.le_refl _,Hp.le_refl _,a,fun _ _ e=> .inl e⟩
theorem Con.told {A:List Value} {Y Z:Type} {φ:Y→Prop} {val:Y→Value} {O':Y→List As} {R':Y→List Fa} {ψ:Z→Prop} {val2:Z→Value} {O2:Z→List As} {R2:Z→List Fa} (h:Con P f A O R φ val O' R') (t:Y→Z)
    (hv:∀y,val y=val2 (t y)) (hp:∀y,φ y→ψ (t y)) (ho:∀y,O' y=O2 (t y)) (hR:∀y,φ y→∀g,Holds g (R' y)→Holds g (R2 (t y))):Con P f A O R ψ val2 O2 R2:=fun w hh g s r ap h1 h2=>
  (h w hh g s r ap h1 h2).mono fun e w' ⟨y,e1,e2,e3⟩=>⟨t y,by rw [e1,hv],hp y e2,by rw [← ho];exact Mem.mapR (hR y e2) e3⟩
theorem Con.of {A:List Value} {Y:Type} {φ:Y→Prop} {val:Y→Value} {O':Y→List As} {R':Y→List Fa} {X:Type} {ψ:X→Prop} {A2:X→List Value} {R2:X→List Fa}
    (h:∀x,ψ x→Con P f (A2 x) O (R2 x) φ val O' R') (hx:∀g,Holds g R→∃x,ψ x∧A2 x=A∧Holds g (R2 x)):Con P f A O R φ val O' R':=fun w hh g s r ap h1 h2=>by
  obtain ⟨x,hp,e,r2⟩:=hx g r
  have:=h x hp w hh g s r2 ap h1 h2
  rw [e] at this;exact this
abbrev bigL (z:Int) (p:Option Addr) (c:Nat):List Value:=[.bool (decide (z<0)),.slice p (Big.digs z.natAbs).length c]
abbrev bigS (z:Int) (p:Option Addr) (c:Nat):Fa:=slF (rI .u32) p c (Big.digs z.natAbs)
theorem Wd.eq {g:Hp} {w:Wd} {z:Int} (h:w.is g z):[w.b,w.l]=bigL z w.p w.c:=by rw [Wd.b,Wd.l,h.1,h.2.1]
theorem zZc {z:Int} {w:Wd} {Y:Type} {φ:Y→Prop} {val:Y→Value} {O':Y→List As} {R':Y→List Fa} (h:∀p c,Con P f [.agg (bigL z p c).toArray] O [bigS z p c] φ val O' R'):Con P f [.agg #[w.b,w.l]] O [zF w z] φ val O' R':=
  Con.of (X:=Unit) (ψ:=fun _=>True) (A2:=fun _=>[.agg (bigL z w.p w.c).toArray]) (R2:=fun _=>[bigS z w.p w.c]) (fun _ _=>h w.p w.c) fun g r=>⟨(),trivial,by rw [← Wd.eq r.1],r.1.2.2,trivial⟩
theorem zAc {z1 z2:Int} {w1 w2:Wd} {Y:Type} {φ:Y→Prop} {val:Y→Value} {O':Y→List As} {R':Y→List Fa} (h:∀p1 c1 p2 c2,Con P f [.agg (bigL z1 p1 c1).toArray,.agg (bigL z2 p2 c2).toArray] O [bigS z1 p1 c1,bigS z2 p2 c2] φ val O' R'):Con P f [.agg #[w1.b,w1.l],.agg #[w2.b,w2.l]] O [zF w1 z1,zF w2 z2] φ val O' R':=
  Con.of (X:=Unit) (ψ:=fun _=>True) (A2:=fun _=>[.agg (bigL z1 w1.p w1.c).toArray,.agg (bigL z2 w2.p w2.c).toArray]) (R2:=fun _=>[bigS z1 w1.p w1.c,bigS z2 w2.p w2.c]) (fun _ _=>h w1.p w1.c w2.p w2.c) fun g r=>⟨(),trivial,by rw [← Wd.eq r.1,←Wd.eq r.2.1],r.1.2.2,r.2.1.2.2,trivial⟩
theorem zWb {z:Int} {A:List Value} (h:Con P f A O R (Y:=Option Addr×Nat) (fun _=>True) (fun y=> .agg (bigL z y.1 y.2).toArray) (fun _=>[]) (fun y=>[bigS z y.1 y.2])):Con P f A O R (Y:=Wd) (fun _=>True) (fun w=> .agg #[w.b,w.l]) (fun _=>[]) (fun w=>[zF w z]):=
  h.told (fun y=>⟨decide (z<0),y.1,(Big.digs z.natAbs).length,y.2⟩) (fun _=>rfl) (fun _ _=>trivial) (fun _=>rfl) (fun y _ g r=>⟨⟨rfl,rfl,r.1⟩,trivial⟩)
end
section
variable {P : Program} {c : Cx} {n : Sz} {Q : Exit → Act → World → Prop} {m : Fm} {O OW : List As} {R R' : List Fa} {ops : Array Oper} {ro : Option Nat} {l : List Oper} {wi k : Nat} {L : Array Bool} {α : Type} {d : Option Tmp} {ty : TypeId} {ps : String} {af : Array Edge} {gd : Option (Nat × Bool)}
def PartsG (m:Fm) (R:List Fa) (r:Rp α):Nat→List (Nat×Operand)→List (Nat×Value)→List α→List (List Value)→Prop
  |_,[],[],[],[]=>True
  |i,(i1,x0) :: xs,(i2,v) :: vs,x :: es,cs :: css=>i1=i∧i2=i∧evo m x0=some v∧v.cells=cs.toArray∧(∀g,Holds g R→∃γ,r.enc x γ=cs∧r.ok g x γ)∧cs.length=r.sz∧PartsG m R r (i+1) xs vs es css
  |_,_,_,_,_=>False
theorem PartsG.evp {r:Rp α}:∀{i:Nat} {xs:List (Nat×Operand)} {vs:List (Nat×Value)} {es:List α} {css:List (List Value)},PartsG m R r i xs vs es css→evp m xs vs
  |_,[],[],[],[],_=>trivial
  |_,(_,_) :: _,(_,_) :: _,_ :: _,_ :: _,⟨h1,h2,h,_,_,_,k⟩=>⟨h1.trans h2.symm,h,PartsG.evp k⟩
theorem PartsG.len {r:Rp α}:∀{i:Nat} {xs:List (Nat×Operand)} {vs:List (Nat×Value)} {es:List α} {css:List (List Value)},PartsG m R r i xs vs es css→css.flatten.length=es.length*r.sz
  |_,[],[],[],[],_=>by simp
  |_,(_,_) :: _,(_,_) :: _,_ :: es,_ :: css,⟨_,_,_,_,_,hl,k⟩=>by
    have:=PartsG.len k
    simp only [List.flatten_cons,List.length_append,hl,this,List.length_cons,Nat.succ_mul];omega
theorem PartsG.fill {r:Rp α}:∀{i:Nat} {xs:List (Nat×Operand)} {vs:List (Nat×Value)} {es:List α} {css:List (List Value)},PartsG m R r i xs vs es css→∀(pre rest:List Value),pre.length=i*r.sz→rest.length=es.length*r.sz→
    Fill (fun i=>some (i*r.sz,r.sz)) (pre++rest) vs (pre++css.flatten)
  |_,[],[],[],[],_,pre,rest,hp,hr=>by
    have:rest=[]:=List.eq_nil_of_length_eq_zero (by simpa using hr)
    subst this;rfl
  |i,(_,_) :: _,(_,_) :: _,x :: es,cs :: css,⟨h1,h2,h,hv,_,hl,k⟩,pre,rest,hp,hr=>by
    subst h2
    refine ⟨_*r.sz,r.sz,cs,pre++(cs++rest.drop r.sz),rfl,hv,hl,⟨?_,?_⟩,?_⟩
    · simp only [List.length_append,hp,hl,hr,List.length_cons,Nat.succ_mul];omega
    · rw [hl, ← hp, List.take_left, List.drop_append]
      have:pre.drop (pre.length+r.sz)=[]:=List.drop_eq_nil_of_le (by omega)
      rw [this,List.nil_append,show pre.length+r.sz - pre.length=r.sz by omega,List.append_assoc]
    · have := PartsG.fill k (pre ++ cs) (rest.drop r.sz) (by rw [List.length_append, hp, hl, Nat.succ_mul]) (by rw [List.length_drop, hr, List.length_cons, Nat.succ_mul]; omega)
      simpa [List.append_assoc] using this
theorem PartsG.els {r:Rp α} {g:Hp} (hr:Holds g R):∀{i:Nat} {xs:List (Nat×Operand)} {vs:List (Nat×Value)} {es:List α} {css:List (List Value)},PartsG m R r i xs vs es css→Els r g css.flatten 0 es
  |_,[],[],[],[],_=>fun i x e=>by simp at e
  |_,(_,_) :: _,(_,_) :: _,x :: es,cs :: css,⟨_,_,h,hv,hok,hl,k⟩=>fun i y e=>by
    cases i with
    |zero=>
      simp at e;subst e
      obtain ⟨γ,h1,h2⟩:=hok g hr
      refine ⟨γ,⟨r.len _ _,fun j v ev=> ?_⟩,h2⟩
      rw [h1] at ev
      have hj:=(List.getElem?_eq_some_iff.1 ev).1
      simp only [List.flatten_cons,Nat.zero_mul,Nat.zero_add]
      rw [List.getElem?_append_left hj];exact ev
    |succ i=>
      obtain ⟨γ,a1,a2⟩:=PartsG.els hr k i y (by simpa using e)
      refine ⟨γ,⟨a1.1,fun j v ev=> ?_⟩,a2⟩
      have:=a1.2 j v ev
      simp only [List.flatten_cons]
      rw [List.getElem?_append_right (by rw [hl,Nat.succ_mul];omega),hl]
      rw [show 0+(i+1)*r.sz+j - r.sz=0+i*r.sz+j by rw [Nat.succ_mul];omega];exact this
end
theorem PartsG.n {α:Type} {m:Fm} {R:List Fa} {r:Rp α} {i:Nat}:PartsG m R r i [] [] [] []:=trivial
theorem PartsG.c {α:Type} {m:Fm} {R:List Fa} {r:Rp α} {i:Nat} {x0:Operand} {v:Value} {x:α} {cs:List Value} {xs:List (Nat×Operand)} {vs:List (Nat×Value)} {es:List α} {css:List (List Value)} (γ:r.G) (h:evo m x0=some v) (hv:v.cells=cs.toArray) (he:r.enc x γ=cs) (hok:∀g,Holds g R→r.ok g x γ) (k:PartsG m R r (i+1) xs vs es css):PartsG m R r i ((i,x0) :: xs) ((i,v) :: vs) (x :: es) (cs :: css):=
  ⟨rfl,rfl,h,hv,fun g hr=>⟨γ,he,hok g hr⟩,by rw [← he];exact r.len _ _,k⟩
section
variable {P : Program} {c : Cx} {n : Sz} {Q : Exit → Act → World → Prop} {m : Fm} {O : List As} {R : List Fa} {α : Type} {d : Option Tmp} {ty : TypeId} {ps : String} {af : Array Edge} {gd : Option (Nat × Bool)}
theorem RowOn.take {T:TypeId} {r:Rp α} {p:Option Addr} {cap:Nat} {l:List α} {g h:Hp} (k:Nat) (s:RowOn T r p cap l g h):RowOn T r p cap (l.take k) g h:=by
  rcases s with ⟨h1,h2,h3,h4⟩|⟨b,off,cells,e1,e2,e3,e4,e5,e6⟩
  · exact .inl ⟨h1,h2,by rw [h3];simp,h4⟩
  · refine .inr ⟨b, off, cells, e1, by rw [List.length_take]; omega, e3, e4, e5, fun i x e => e6 i x ?_⟩
    rw [List.getElem?_take] at e
    split at e
    · exact e
    · cases e
theorem Sep.mapAt {g:Hp} {A B:As} (hAB:∀h,A.on g h→B.on g h):∀{O:List As} (i:Nat) {h:Hp},O[i]? =some A→Sep g O h→Sep g (O.set i B) h
  |[],_,_,e,_=>by simp at e
  |_ :: _,0,_,e,⟨h1,h2,a,e1,x,y⟩=>by simp at e;subst e;exact ⟨h1,h2,a,e1,hAB _ x,y⟩
  |_ :: _,i+1,_,e,⟨h1,h2,a,e1,x,y⟩=>⟨h1,h2,a,e1,x,Sep.mapAt hAB i (by simpa using e) y⟩
theorem Mem.rowTake {w:World} (i:Nat) {T:TypeId} {r:Rp α} {p:Option Addr} {cap:Nat} {l:List α} (hi:O[i]? =some (rowA T r p cap l)) (k:Nat) (mm:Mem c w O R):Mem c w (O.set i (rowA T r p cap (l.take k))) R:=
  mm.resep fun g h s=>Sep.mapAt (fun _ x=>RowOn.take k x) i hi s
theorem zLc {s e T:TypeId} {x ix:Operand} {r:Rp α} {p:Option Addr} {k cap:Nat} {kk:IntKind} {z:Int} {xs:List α} (i j:Nat) (hi:O[i]? =some (rowA T r p cap xs)) (hu:P.underlying s=some (.slice e)) (ht:(P.info? e).map (·.size)=some r.sz)
    (h1:evo m x=some (.slice p k cap)) (hk:k≤xs.length) (h2:evo m ix=some (.int kk z)) (hz:z=(j:Int)) (hj:j<k):
    Vl P n ⟨d,.indexAddr s x ix,ty,ps,af,gd⟩ m O R (Y:=Unit) (fun _=>True) (fun _=>rowPtr p (j*r.sz)) (fun _=>[]):=fun a f hh g sp hr=>by
  obtain ⟨k1,k2,ap,e0,hA,_,_⟩:=Sep.pick i hi sp
  refine ⟨(),trivial,trivial,fun w _ _=> ?_⟩
  have hA':RowOn T r p cap xs g k1:=hA
  rcases hA' with ⟨_,_,rfl,_⟩|⟨b,off,cells,rfl,_⟩
  · simp at hk;omega
  · subst hz
    have hrun:=zXa (P:=P) (a:=⟨b,off,none⟩) (cap:=cap) (kk:=kk) (w:=w) hu ht hj
    simp only [execOp,f.ev h1,f.ev h2,Sem.run_bind,hrun,Result.andThen_ok,Sem.run_pure,Addr.add_lit,rowPtr,Option.map_some]
end
theorem zGb {P:Program} {c:Cx} {n:Sz} {Q:Exit→Act→World→Prop} {m:Fm} {O:List As} {R:List Fa} {α:Type} {ro:Option Nat} {x:Code} {T:TypeId} {r:Rp α} {p:Option Addr} {cap:Nat} {l:List α} (i:Nat) (hi:O[i]? =some (rowA T r p cap l)) (k:l.length≤cap∧cap≤9223372036854775807→RunC (ro:=ro) P Q c n x m O R):RunC (ro:=ro) P Q c n x m O R:=fun a w f mm=>by
  obtain ⟨hh,g,m2⟩:=mm
  obtain ⟨k1,k2,_,_,hA,_,_⟩:=Sep.pick i hi m2.sep
  have hA':RowOn T r p cap l g k1:=hA
  refine k ?_ a w f ⟨hh,g,m2⟩
  rcases hA' with ⟨_,h2,h3,_⟩|⟨b,off,cells,_,e2,e3,_⟩
  · subst h2;subst h3;exact ⟨Nat.le_refl _,by decide⟩
  · unfold maxLen at e3;omega
theorem MemAt.stay {c:Cx} {w w':World} {O:List As} {R:List Fa} {h g g2:Hp} (m:MemAt c w O R h g) (k:Kept ⟨w,Hp.emp,g2⟩ w'):MemAt c w' O R h g:=by
  have key:∀(x:Hp),Has w x→Has w' x:=fun x hx b o e=>by
    have h1:=hx b o e
    have hlt:=(Array.getElem?_eq_some_iff.1 h1).1
    rw [k.block b hlt rfl];exact h1
  refine ⟨m.sep,m.holds,m.apart,key _ m.hasH,key _ m.hasG,m.le,m.newG,m.newH,k.os.trans m.kept.os,k.tape.trans m.kept.tape,k.output.trans m.kept.output,Nat.le_trans m.kept.size k.size,fun b hb e=> ?_⟩
  rw [k.block b (Nat.lt_of_lt_of_le hb m.kept.size) rfl]
  exact m.kept.block b hb e
section
variable {P : Program} {c : Cx} {n : Sz} {Q : Exit → Act → World → Prop} {m : Fm} {O OW : List As} {R R' : List Fa} {ops : Array Oper} {ro : Option Nat} {l : List Oper} {wi k : Nat} {L : Array Bool} {α : Type} {ty : TypeId} {ps : String} {af : Array Edge} {gd : Option (Nat × Bool)}
theorem borrow_call {o:Oper} {v:Value} {js:List Nat} {T:TypeId} {r:Rp α} {p:Option Addr} {cap:Nat} {xs:List α} (i:Nat) (hi:O[i]? =some (rowA T r p cap xs)) (h:Ef P n o m [] R' (Y:=Unit) (fun _=>True) (fun _=>v) (fun _=>[]) (fun _=>[])) (hs:SelR js (slF r p cap xs :: R) R')
    {a:Act} {w:World} {hh g:Hp} (f:Fr n a m) (sp:Sep g O hh) (hr:Holds g R) (ap:hh.apart g) (hH:Has w hh) (hG:Has w g) {K:Act→World→Prop} (hK:∀w' g2,Kept ⟨w,Hp.emp,g2⟩ w'→K (a.put o.dst v) w'):WpB P o a w K Q:=by
  obtain ⟨k1,k2,ap12,e0,hA,_,_⟩:=Sep.pick i hi sp
  have hA':RowOn T r p cap xs g k1:=hA
  have hk1:k1.le hh:=by rw [e0];exact Hp.le_joinL _ _
  have apk:k1.apart g:=by rw [e0] at ap;exact (Hp.apart_join.1 ap).1
  have hsl:=rowA_sl hA' apk
  have hR2:Holds (g.join k1) (slF r p cap xs :: R):=⟨hsl,Holds.mono (Hp.le_joinL _ _) hr⟩
  exact h a f w Hp.emp (g.join k1) rfl (hs.holds hR2) (Hp.emp_apart _) (fun _ _ e=>by cases e) (Has.join hG (Has.mono hH hk1)) _ _ (fun _ w' _ hM=>by
    obtain ⟨h',g',mm'⟩:=hM
    exact hK w' _ mm'.kept)
theorem zff {T:TypeId} {r:Rp α} {p:Option Addr} {cap:Nat} {zs:List α} (q:Nat) (hq:O[q]? =some (rowA T r p cap zs)) {i:Nat} {t0:Tmp} {xs:List Operand} {ats:Array TypeId} {f:Nat} {vs:List Value} {js:List Nat} {v:Value}
    (hne:Nat.beq i wi=false) (hi:ops[i]? =some ⟨some t0,.call ⟨.value (.func f),xs.toArray,ats⟩,ty,ps,af,gd⟩) (hw:wnt ops m ⟨some t0,.call ⟨.value (.func f),xs.toArray,ats⟩,ty,ps,af,gd⟩=some true) (hd:Nat.ble (t0+1) n.sz=true) (hx:evs m xs vs) (hc:CanEnter P f)
    (h:Con P f vs [] R' (Y:=Unit) (fun _=>True) (fun _=>v) (fun _=>[]) (fun _=>[])) (hs:SelR js (slF r p cap zs :: R) R')
    (kont:RunD P ops Q c n wi k (L.setIfInBounds i true) ((t0,v) :: m) OW O R):RunO P ops Q c n wi k L i m OW O R:=fun hQ hs' hcl hrd a w hw2 hr g fr s1 s2 ap mm=>by
  unfold wpOp
  simp only [hi]
  rw [if_pos (fr.wanted hw)]
  have he:Ef P n ⟨some t0,.call ⟨.value (.func f),xs.toArray,ats⟩,ty,ps,af,gd⟩ m [] R' (Y:=Unit) (fun _=>True) (fun _=>v) (fun _=>[]) (fun _=>[]):=zIc (first:=[]) (cap:=[]) rfl hx hc (by simpa using h)
  have hrle:=Hp.le_joinR ap
  have aph:hr.apart g:=(Hp.apart_join.1 mm.apart).2
  refine .inl<|WpB.wp (borrow_call q hq he hs fr s2 mm.holds aph (Has.mono mm.hasH hrle) mm.hasG (fun w' g2 kp=> ?_))
  have mm2:=mm.stay kp
  exact ⟨⟨Has.mono mm2.hasH hrle,mm2.hasG,fun _=>Has.mono mm2.hasH (Hp.le_joinL _ _)⟩,kont hQ hs' (hcl.step hrd) _ w' hw2 hr g (fr.put (d:=some t0) hd _) s1 s2 ap mm2⟩
end
end Go.Proofs.Ytefbbhiaalcjfaa.Sp
namespace Go.Proofs.Ytefbbhiaalcjfaa.Big
theorem valL_drop (A:List Int) (k:Nat):valL (A.drop k)=A.getD k 0+1000000000*valL (A.drop (k+1)):=by
  rcases Nat.lt_or_ge k A.length with h|h
  · rw [List.drop_eq_getElem_cons h,List.getD_eq_getElem?_getD,List.getElem?_eq_getElem h];rfl
  · rw [List.drop_eq_nil_of_le h,List.drop_eq_nil_of_le (by omega),List.getD_eq_getElem?_getD,List.getElem?_eq_none h];rfl
theorem valL_cut (A:List Int) (k:Nat) (h:k≤A.length):valL A=valL (A.take k)+pw k*valL (A.drop k):=by
  have h1:=valL_append (A.take k) (A.drop k)
  rw [List.take_append_drop,List.length_take,Nat.min_eq_left h] at h1;exact h1
theorem okL_drop {l:List Int} (h:okL l) (k:Nat):okL (l.drop k):=fun d hd=>h d (List.mem_of_mem_drop hd)
theorem valL_take_lt {l:List Int} (h:okL l) (k:Nat):0≤valL (l.take k)∧valL (l.take k)<pw k:=by
  have h1:=valL_lt (okL_take h k)
  have h2:=valL_nonneg (okL_take h k)
  have h3:=pw_mono (show (l.take k).length≤k by rw [List.length_take];omega)
  omega
theorem pad_set {n:Nat} {qs:List Int} (x:Int):(List.replicate (n+1) 0++qs).set n x=List.replicate n 0++x :: qs:=by
  rw [List.replicate_succ',List.append_assoc,List.set_append_right _ _ (by simp)];simp
structure ShI (A:List Int) (d:Int) (k:Nat) (qs:List Int) (r:Int):Prop where
  le:k≤A.length
  len:qs.length=A.length - k
  ok:okL qs
  r0:0≤r
  r1:r<d
  eq:valL qs*d+r=valL (A.drop k)
theorem ShI.start {A:List Int} {d:Int} (hd:0<d):ShI A d A.length [] 0:=⟨Nat.le_refl _,by simp,okL_nil,Int.le_refl _,hd,by simp [valL]⟩
theorem sh_digit {r d g:Int} (h0:0≤r) (h1:r<d) (hg:0≤g∧g<1000000000):0≤(r*1000000000+g) / d∧(r*1000000000+g) / d<1000000000:=by
  refine ⟨Int.ediv_nonneg (by omega) (by omega),?_⟩
  refine Int.ediv_lt_of_lt_mul (by omega) ?_
  have:(r+1)*1000000000≤d*1000000000:=Int.mul_le_mul_of_nonneg_right (by omega) (by decide)
  rw [Int.mul_comm d] at this;omega
theorem ShI.step {A:List Int} {d:Int} {k:Nat} {qs:List Int} {r:Int} (h:ShI A d (k+1) qs r) (hA:okL A):ShI A d k ((r*1000000000+A.getD k 0) / d :: qs) ((r*1000000000+A.getD k 0)%d):=by
  have hg:=okL_getD hA k
  have h0:=h.r0;have h1:=h.r1;have hle:=h.le
  have hd:0<d:=by omega
  refine ⟨by omega,by simp only [List.length_cons,h.len];omega,okL_cons.2 ⟨sh_digit h0 h1 hg,h.ok⟩,Int.emod_nonneg _ (by omega),Int.emod_lt_of_pos _ hd,?_⟩
  rw [valL_drop,←h.eq]
  have e:=Int.mul_ediv_add_emod (r*1000000000+A.getD k 0) d
  simp only [valL]
  rw [Int.add_mul,Int.mul_comm _ d]
  have e2:1000000000*valL qs*d=1000000000*(valL qs*d):=Int.mul_assoc _ _ _
  omega
theorem ShI.fin {a m:Nat} {qs:List Int} {r:Int} (h:ShI (digs a) (m:Int) 0 qs r):trimL qs=digs (a / m)∧r=((a%m:Nat):Int):=by
  have e:=h.eq;have h0:=h.r0;have h1:=h.r1;have hn:=valL_nonneg h.ok
  rw [List.drop_zero,valL_digs] at e
  have hq:valL qs=((a / m:Nat):Int):=by
    rw [Int.natCast_ediv]
    symm
    have e3:(a:Int)=r+valL qs*(m:Int):=by omega
    rw [e3,Int.add_mul_ediv_right _ _ (by omega),Int.ediv_eq_zero_of_lt h0 h1];omega
  refine ⟨trimL_of h.ok hq,?_⟩
  rw [Int.natCast_emod]
  have e3:(a:Int)=r+valL qs*(m:Int):=by omega
  rw [e3,Int.add_mul_emod_self_right,Int.emod_eq_of_lt h0 h1]
structure LgI (M n:Nat) (a v:Int) (jj:Nat) (u qs:List Int):Prop where
  ul:u.length=M
  uo:okL u
  ql:qs.length=M - n - jj
  qo:okL qs
  jle:jj+n≤M
  eq:valL u+v*pw jj*valL qs=a
  lt:valL u<v*pw jj
structure Gs (T v vt top g r:Int):Prop where
  eq:g*vt+r=top
  r0:0≤r
  g0:0≤g
  up:T<(g+1)*v
structure Tp (T v vt vs u2 u1 u0 w:Int):Prop where
  w1:1≤w
  vt1:1≤vt
  vt2:vt<1000000000
  vs0:0≤vs
  vs1:vs<1000000000
  a0:0≤u0∧u0<1000000000
  a1:0≤u1∧u1<1000000000
  a2:0≤u2∧u2<1000000000
  vlo:(vt*1000000000+vs)*w≤v
  vhi:v<(vt*1000000000+vs+1)*w
  tlo:((u2*1000000000+u1)*1000000000+u0)*w≤T
  thi:T<((u2*1000000000+u1)*1000000000+u0+1)*w
  tv:T<v*1000000000
theorem mul_le_of {a b w:Int} (hw:0≤w) (h:a≤b):a*w≤b*w:=Int.mul_le_mul_of_nonneg_right h hw
theorem lt_of_mul {a b w:Int} (hw:1≤w) (h:a*w<b*w):a<b:=Int.lt_of_mul_lt_mul_right h (by omega)
theorem Tp.top {T v vt vs u2 u1 u0 w:Int} (h:Tp T v vt vs u2 u1 u0 w):u2≤vt:=by
  have h1:=h.tlo;have h2:=h.tv;have h3:=h.vhi;have hw:=h.w1
  have h4:=h.a0;have h5:=h.a1;have h6:=h.vs1
  have h7:((u2*1000000000+u1)*1000000000+u0)*w<((vt*1000000000+vs+1)*1000000000)*w:=by
    have:v*1000000000<(vt*1000000000+vs+1)*w*1000000000:=by omega
    have e:(vt*1000000000+vs+1)*w*1000000000=((vt*1000000000+vs+1)*1000000000)*w:=by rw [Int.mul_assoc,Int.mul_assoc,Int.mul_comm w]
    omega
  have h8:=lt_of_mul hw h7
  omega
theorem Tp.start {T v vt vs u2 u1 u0 w:Int} (h:Tp T v vt vs u2 u1 u0 w):Gs T v vt (u2*1000000000+u1) ((u2*1000000000+u1) / vt) ((u2*1000000000+u1)%vt):=by
  have hv:=h.vt1;have h1:=h.a1;have h2:=h.a2;have hw:=h.w1
  have e:=Int.mul_ediv_add_emod (u2*1000000000+u1) vt
  have hr:=Int.emod_lt_of_pos (u2*1000000000+u1) (show 0<vt by omega)
  have hr0:=Int.emod_nonneg (u2*1000000000+u1) (show vt≠0 by omega)
  have hq0:0≤(u2*1000000000+u1) / vt:=Int.ediv_nonneg (by omega) (by omega)
  generalize (u2*1000000000+u1) / vt=g at*
  generalize (u2*1000000000+u1)%vt=r at*
  refine ⟨by rw [Int.mul_comm];exact e,hr0,hq0,?_⟩
  have ht:=h.thi;have hl:=h.vlo;have h0:=h.a0;have hs:=h.vs0
  have k1:(u2*1000000000+u1)*1000000000+u0+1≤(g+1)*(vt*1000000000+vs):=by
    have k2:(g+1)*(vt*1000000000+vs)=1000000000*(vt*g)+1000000000*vt+(g+1)*vs:=by grind
    have k3:0≤(g+1)*vs:=Int.mul_nonneg (by omega) hs
    omega
  have k4:=mul_le_of (show 0≤w by omega) k1
  have k5:(g+1)*(vt*1000000000+vs)*w≤(g+1)*v:=by rw [Int.mul_assoc];exact Int.mul_le_mul_of_nonneg_left hl (by omega)
  omega
theorem Gs.le {T v vt vs u2 u1 u0 w g r:Int} (h:Tp T v vt vs u2 u1 u0 w) (k:Gs T v vt (u2*1000000000+u1) g r):g≤2000000000∧r≤1000000000000000000:=by
  have h1:=h.top;have h2:=k.eq;have h3:=h.a1;have h4:=h.vt1;have h5:=k.r0;have h6:=k.g0;have h7:=h.vt2
  have h8:0≤g*vt:=Int.mul_nonneg h6 (by omega)
  refine ⟨?_,by omega⟩
  refine Decidable.byContradiction fun hc=> ?_
  have h9:2000000001*vt≤g*vt:=Int.mul_le_mul_of_nonneg_right (by omega) (by omega)
  omega
theorem Gs.step {T v vt vs u2 u1 u0 w g r:Int} (h:Tp T v vt vs u2 u1 u0 w) (k:Gs T v vt (u2*1000000000+u1) g r) (hc:1000000000≤g∨r*1000000000+u0<g*vs):1≤g∧Gs T v vt (u2*1000000000+u1) (g - 1) (r+vt):=by
  have hr:=k.r0;have hg:=k.g0;have he:=k.eq;have hv:=h.vt1;have h0:=h.a0;have hw:=h.w1
  have hg1:1≤g:=by
    rcases hc with hc|hc
    · omega
    · refine Decidable.byContradiction fun hn => ?_
      have:g=0:=by omega
      subst this;simp at hc;omega
  have hvp:0≤v:=by
    have h1:=h.vlo;have h2:=h.vs0
    have:0≤(vt*1000000000+vs)*w:=Int.mul_nonneg (by omega) (by omega)
    omega
  refine ⟨hg1,⟨by rw [Int.sub_mul];omega,by omega,by omega,?_⟩⟩
  rw [show g - 1+1=g by omega]
  rcases hc with hc|hc
  · have h1 := h.tv
    have:1000000000*v≤g*v:=mul_le_of hvp hc
    omega
  · have h1 := h.thi; have h2 := h.vlo
    have k1:(u2*1000000000+u1)*1000000000+u0+1≤g*(vt*1000000000+vs):=by
      have:g*(vt*1000000000+vs)=1000000000*(g*vt)+g*vs:=by grind
      omega
    have k4:=mul_le_of (show 0≤w by omega) k1
    have k5:g*(vt*1000000000+vs)*w≤g*v:=by rw [Int.mul_assoc];exact Int.mul_le_mul_of_nonneg_left h2 (by omega)
    omega
theorem Gs.fin {T v vt vs u2 u1 u0 w g r:Int} (h:Tp T v vt vs u2 u1 u0 w) (k:Gs T v vt (u2*1000000000+u1) g r) (h1:g<1000000000) (h2:g*vs≤r*1000000000+u0):g*v<T+v:=by
  have he:=k.eq;have hg:=k.g0;have hw:=h.w1;have hv:=h.vt1;have hs:=h.vs0
  have k1:g*(vt*1000000000+vs)≤(u2*1000000000+u1)*1000000000+u0:=by
    have:g*(vt*1000000000+vs)=1000000000*(g*vt)+g*vs:=by grind
    omega
  have k2:=mul_le_of (show 0≤w by omega) k1
  have k3:=h.tlo
  have hl:=h.vlo;have hh:=h.vhi
  have k4:g*(v - (vt*1000000000+vs)*w)≤g*w:=Int.mul_le_mul_of_nonneg_left (by rw [Int.add_mul (vt*1000000000+vs),Int.one_mul] at hh;omega) hg
  have k5:g*w≤999999999*w:=mul_le_of (by omega) (by omega)
  have k6:1000000000*w≤(vt*1000000000+vs)*w:=mul_le_of (by omega) (by omega)
  rw [Int.mul_sub,←Int.mul_assoc] at k4
  omega
theorem Gs.broke {T v vt vs u2 u1 u0 w g r:Int} (h:Tp T v vt vs u2 u1 u0 w) (k:Gs T v vt (u2*1000000000+u1) g r) (hb:1000000000≤r):g<1000000000∧g*vs≤r*1000000000+u0:=by
  have h1:=h.top;have he:=k.eq;have h3:=h.a1;have h4:=h.vt1;have hg:=k.g0;have h0:=h.a0
  have hlt:g<1000000000:=by
    refine Decidable.byContradiction fun hc=> ?_
    have:1000000000*vt≤g*vt:=mul_le_of (by omega) (by omega)
    omega
  refine ⟨hlt,?_⟩
  have hs:=h.vs1;have hs0:=h.vs0
  have:g*vs≤999999999*vs:=mul_le_of hs0 (by omega)
  omega
theorem LgI.T {M n:Nat} {a v:Int} {j:Nat} {u qs:List Int} (h:LgI M n a v (j+1) u qs):valL u=valL (u.take j)+pw j*valL (u.drop j)∧0≤valL (u.take j)∧valL (u.take j)<pw j∧0≤valL (u.drop j)∧valL (u.drop j)<v*1000000000:=by
  have h1:=valL_cut u j (by rw [h.ul];have:=h.jle;omega)
  have h2:=valL_take_lt h.uo j
  have h3:=valL_nonneg (okL_drop h.uo j)
  refine ⟨h1,h2.1,h2.2,h3,?_⟩
  have h4:=h.lt
  rw [pw_succ] at h4
  have h5:pw j*valL (u.drop j)<pw j*(v*1000000000):=by
    have:v*(1000000000*pw j)=pw j*(v*1000000000):=by ac_rfl
    omega
  exact Int.lt_of_mul_lt_mul_left h5 (Int.le_of_lt (pw_pos j))
theorem drop_high {l:List Int} (h:okL l) {k:Nat} (hv:valL l<pw k):valL (l.drop k)=0:=by
  rcases Nat.lt_or_ge l.length k with hk|hk
  · rw [List.drop_eq_nil_of_le (by omega)];rfl
  · have h1 := valL_cut l k hk
    have h2:=valL_nonneg (okL_take h k)
    have h3:=valL_nonneg (okL_drop h k)
    refine Decidable.byContradiction fun hc=> ?_
    have:pw k*1≤pw k*valL (l.drop k):=Int.mul_le_mul_of_nonneg_left (by omega) (Int.le_of_lt (pw_pos k))
    omega
theorem getD_drop' (l:List Int) (i k:Nat):(l.drop i).getD k 0=l.getD (i+k) 0:=by simp [List.getD_eq_getElem?_getD]
theorem digs_top {b:Nat} {n:Nat} (h:(digs b).length=n+1):1≤(digs b).getD n 0:=by
  have h1:=canon_digs (b:Int)
  unfold canon at h1
  rw [Int.natAbs_natCast,if_neg (by omega),h,Nat.add_sub_cancel] at h1
  have h2:=okL_getD (digs_ok b) n
  omega
theorem LgI.high {M n:Nat} {a:Int} {b j:Nat} {u qs:List Int} (h:LgI M n a (b:Int) (j+1) u qs) (hn:(digs b).length=n):valL (u.drop (j+(n+1)))=0:=by
  have ht:=h.T
  have hb:=digs_lt b
  rw [hn] at hb
  have:=drop_high (okL_drop h.uo j) (k:=n+1) (by rw [pw_succ];omega)
  rw [List.drop_drop] at this;exact this
theorem LgI.tp {M m:Nat} {a:Int} {b j:Nat} {u qs:List Int} (h:LgI M (m+2) a (b:Int) (j+1) u qs) (hn:(digs b).length=m+2):Tp (valL (u.drop j)) b ((digs b).getD (m+1) 0) ((digs b).getD m 0) (u.getD (j+(m+2)) 0) (u.getD (j+(m+1)) 0) (u.getD (j+m) 0) (pw m):=by
  have ht:=h.T
  have hh:=h.high hn
  have hvb:=valL_digs b
  have e1:valL (digs b)=valL ((digs b).take m)+pw m*valL ((digs b).drop m):=valL_cut _ _ (by omega)
  have e2:valL ((digs b).drop m)=(digs b).getD m 0+1000000000*(digs b).getD (m+1) 0:=by
    rw [valL_drop,valL_drop,List.drop_eq_nil_of_le (show (digs b).length≤m+1+1 by omega)];simp [valL]
  have e3:=valL_take_lt (digs_ok b) m
  have f1:valL (u.drop j)=valL ((u.drop j).take m)+pw m*valL ((u.drop j).drop m):=valL_cut _ _ (by rw [List.length_drop,h.ul];have:=h.jle;omega)
  have f2:valL ((u.drop j).drop m)=u.getD (j+m) 0+1000000000*(u.getD (j+(m+1)) 0+1000000000*u.getD (j+(m+2)) 0):=by
    rw [List.drop_drop,valL_drop,valL_drop,valL_drop,show j+m+1+1+1=j+(m+2+1) by omega,hh,show j+m+1=j+(m+1) by omega,show j+(m+1)+1=j+(m+2) by omega];omega
  have f3:=valL_take_lt (okL_drop h.uo j) m
  have hp:=pw_pos m
  have ob:=digs_ok b
  have g1:=okL_getD ob (m+1);have g0:=okL_getD ob m
  have c0:=okL_getD h.uo (j+m);have c1:=okL_getD h.uo (j+(m+1));have c2:=okL_getD h.uo (j+(m+2))
  refine ⟨by omega,digs_top (n:=m+1) hn,g1.2,g0.1,g0.2,c0,c1,c2,?_,?_,?_,?_,ht.2.2.2.2⟩
  · rw [← hvb, e1, e2]
    have:(digs b).getD (m+1) 0*1000000000+(digs b).getD m 0=(digs b).getD m 0+1000000000*(digs b).getD (m+1) 0:=by omega
    rw [this,Int.mul_comm];omega
  · rw [← hvb, e1, e2]
    have:(digs b).getD (m+1) 0*1000000000+(digs b).getD m 0+1=((digs b).getD m 0+1000000000*(digs b).getD (m+1) 0)+1:=by omega
    rw [this,Int.add_mul,Int.mul_comm _ (pw m)];omega
  · rw [f1, f2]
    have:(u.getD (j+(m+2)) 0*1000000000+u.getD (j+(m+1)) 0)*1000000000+u.getD (j+m) 0=u.getD (j+m) 0+1000000000*(u.getD (j+(m+1)) 0+1000000000*u.getD (j+(m+2)) 0):=by omega
    rw [this,Int.mul_comm];omega
  · rw [f1, f2]
    have:(u.getD (j+(m+2)) 0*1000000000+u.getD (j+(m+1)) 0)*1000000000+u.getD (j+m) 0+1=(u.getD (j+m) 0+1000000000*(u.getD (j+(m+1)) 0+1000000000*u.getD (j+(m+2)) 0))+1:=by omega
    rw [this,Int.add_mul,Int.mul_comm _ (pw m)];omega
structure MsI (u:List Int) (j:Nat) (g:Int) (v:List Int) (i:Nat) (u2:List Int) (bo ca:Int):Prop where
  len:u2.length=u.length
  ok:okL u2
  b0:0≤bo
  b1:bo≤1
  c0:0≤ca
  c1:ca<1000000000
  far:∀k,j+i≤k→u2.getD k 0=u.getD k 0
  eq:valL u2=valL u - pw j*(g*valL (v.take i))+pw (j+i)*(bo+ca)
theorem MsI.start {u:List Int} (h:okL u) (j:Nat) (g:Int) (v:List Int):MsI u j g v 0 u 0 0:=⟨rfl,h,by decide,by decide,by decide,by decide,fun _ _=>rfl,by simp [valL]⟩
theorem ms_carry {g x ca:Int} (hg:0≤g∧g<1000000000) (hx:0≤x∧x<1000000000) (hc:0≤ca∧ca<1000000000):0≤g*x+ca∧g*x+ca≤999999999000000000∧0≤(g*x+ca) / 1000000000∧(g*x+ca) / 1000000000<1000000000:=by
  have h1:0≤g*x:=Int.mul_nonneg hg.1 hx.1
  have h2:g*x≤999999999*x:=mul_le_of hx.1 (by omega)
  omega
theorem MsI.step {u:List Int} {j:Nat} {g:Int} {v:List Int} {i:Nat} {u2:List Int} {bo ca y bo2:Int} (h:MsI u j g v i u2 bo ca) (hg:0≤g∧g<1000000000) (hv:okL v) (hj:j+i<u.length)
    (hy:y=u2.getD (j+i) 0 - bo - (g*v.getD i 0+ca)%1000000000+1000000000*bo2) (hy0:0≤y∧y<1000000000) (hb:0≤bo2∧bo2≤1):MsI u j g v (i+1) (u2.set (j+i) y) bo2 ((g*v.getD i 0+ca) / 1000000000):=by
  have hc:=ms_carry hg (okL_getD hv i) ⟨h.c0,h.c1⟩
  refine ⟨by rw [List.length_set];exact h.len,okL_set h.ok hy0.1 hy0.2,hb.1,hb.2,hc.2.2.1,hc.2.2.2,fun k hk=>by rw [getD_set_ne (by omega)];exact h.far k (by omega),?_⟩
  rw [valL_set y (by rw [h.len];exact hj),h.eq,valL_take_succ,hy]
  have e:=Int.mul_ediv_add_emod (g*v.getD i 0+ca) 1000000000
  rw [← Nat.add_assoc,pw_succ,pw_add]
  generalize (g*v.getD i 0+ca) / 1000000000=q at*
  generalize (g*v.getD i 0+ca)%1000000000=r at*
  have e2:r=g*v.getD i 0+ca - 1000000000*q:=by omega
  subst e2
  grind
structure AbI (u:List Int) (j:Nat) (v:List Int) (i:Nat) (u2:List Int) (ca:Int):Prop where
  len:u2.length=u.length
  ok:okL u2
  c0:0≤ca
  c1:ca≤1
  far:∀k,j+i≤k→u2.getD k 0=u.getD k 0
  eq:valL u2=valL u+pw j*valL (v.take i) - pw (j+i)*ca
theorem AbI.start {u:List Int} (h:okL u) (j:Nat) (v:List Int):AbI u j v 0 u 0:=⟨rfl,h,by decide,by decide,fun _ _=>rfl,by simp [valL]⟩
theorem AbI.step {u:List Int} {j:Nat} {v:List Int} {i:Nat} {u2:List Int} {ca y c2:Int} (h:AbI u j v i u2 ca) (hj:j+i<u.length)
    (hy:y=u2.getD (j+i) 0+v.getD i 0+ca - 1000000000*c2) (hy0:0≤y∧y<1000000000) (hb:0≤c2∧c2≤1):AbI u j v (i+1) (u2.set (j+i) y) c2:=by
  refine ⟨by rw [List.length_set];exact h.len,okL_set h.ok hy0.1 hy0.2,hb.1,hb.2,fun k hk=>by rw [getD_set_ne (by omega)];exact h.far k (by omega),?_⟩
  rw [valL_set y (by rw [h.len];exact hj),h.eq,valL_take_succ,hy]
  rw [← Nat.add_assoc,pw_succ,pw_add]
  grind
theorem LgI.next {M n:Nat} {a v:Int} {j:Nat} {u qs:List Int} (h:LgI M n a v (j+1) u qs) {u':List Int} {g:Int} (hl:u'.length=M) (ho:okL u') (hg:0≤g∧g<1000000000) (he:valL u'=valL u - pw j*(g*v)) (hlt:valL u'<v*pw j):LgI M n a v j u' (g :: qs):=by
  have hj:=h.jle
  refine ⟨hl,ho,by rw [List.length_cons,h.ql];omega,okL_cons.2 ⟨hg,h.qo⟩,by omega,?_,hlt⟩
  rw [he,←h.eq,pw_succ]
  simp only [valL]
  grind
theorem LgI.bound {M n:Nat} {a v:Int} {j:Nat} {u qs:List Int} (h:LgI M n a v (j+1) u qs) {g:Int} (hup:valL (u.drop j)<(g+1)*v):valL u<pw j*((g+1)*v):=by
  obtain ⟨h1,h2,h3,h4,_⟩:=h.T
  have:pw j*(valL (u.drop j)+1)≤pw j*((g+1)*v):=Int.mul_le_mul_of_nonneg_left (by omega) (Int.le_of_lt (pw_pos j))
  rw [Int.mul_add,Int.mul_one] at this;omega
theorem LgI.low {M n:Nat} {a v:Int} {j:Nat} {u qs:List Int} (h:LgI M n a v (j+1) u qs) {g:Int} (hdn:g*v<valL (u.drop j)+v):pw j*(g*v)<valL u+pw j*v:=by
  obtain ⟨h1,h2,h3,h4,_⟩:=h.T
  have:pw j*(g*v+1)≤pw j*(valL (u.drop j)+v):=Int.mul_le_mul_of_nonneg_left (by omega) (Int.le_of_lt (pw_pos j))
  rw [Int.mul_add,Int.mul_add,Int.mul_one] at this
  have:=pw_pos j;omega
theorem at_split {u:List Int} {k:Nat} (hk:k<u.length) (h0:valL (u.drop (k+1))=0):valL u=valL (u.take k)+pw k*u.getD k 0:=by
  rw [valL_cut u k (by omega),valL_drop u k,h0];simp
theorem drop_far {u u2:List Int} {k:Nat} (hl:u2.length=u.length) (h:∀i,k≤i→u2.getD i 0=u.getD i 0):u2.drop k=u.drop k:=
  ext_getD (by simp [hl]) (fun i hi=>by rw [getD_drop',getD_drop'];exact h _ (by omega))
theorem LgI.pos {M n:Nat} {a:Int} {b j:Nat} {u qs:List Int} (h:LgI M n a (b:Int) (j+1) u qs) {g:Int} (hg:0≤g∧g<1000000000) (hup:valL (u.drop j)<(g+1)*(b:Int))
    {u2:List Int} {bo ca:Int} (hm:MsI u j g (digs b) n u2 bo ca) (hn:(digs b).length=n) (hd:0≤u2.getD (j+n) 0 - bo - ca):LgI M n a (b:Int) j (u2.set (j+n) (u2.getD (j+n) 0 - bo - ca)) (g :: qs):=by
  have hj:=h.jle
  have hx:=okL_getD hm.ok (j+n)
  have h1:=hm.b0;have h2:=hm.c0
  have he:valL (u2.set (j+n) (u2.getD (j+n) 0 - bo - ca))=valL u - pw j*(g*(b:Int)):=by
    rw [valL_set _ (by rw [hm.len,h.ul];omega),hm.eq,List.take_of_length_le (by omega),valL_digs]
    grind
  refine h.next (by rw [List.length_set,hm.len,h.ul]) (okL_set hm.ok hd (by omega)) hg he ?_
  have:=h.bound hup
  rw [he]
  have e:pw j*((g+1)*(b:Int))=pw j*(g*(b:Int))+(b:Int)*pw j:=by grind
  omega
theorem LgI.neg1 {M n:Nat} {a:Int} {b j:Nat} {u qs:List Int} (h:LgI M n a (b:Int) (j+1) u qs) {g:Int}
    {u2:List Int} {bo ca:Int} (hm:MsI u j g (digs b) n u2 bo ca) (hn:(digs b).length=n) (hd:u2.getD (j+n) 0 - bo - ca<0):g≠0:=fun hg=>by
  subst hg
  have hj:=h.jle
  have hlen2:j+n<u2.length:=by rw [hm.len,h.ul];omega
  have hhi2:valL (u2.drop (j+n+1))=0:=by rw [drop_far hm.len (fun i hi=>hm.far i (by omega))];exact h.high hn
  have s2:=at_split hlen2 hhi2
  have t2:=valL_take_lt hm.ok (j+n)
  have hp:=pw_pos (j+n)
  have e:=hm.eq
  have:pw (j+n)*(u2.getD (j+n) 0 - bo - ca)≤pw (j+n)*(-1):=Int.mul_le_mul_of_nonneg_left (by omega) (Int.le_of_lt hp)
  rw [Int.mul_sub,Int.mul_sub] at this
  rw [Int.mul_add,Int.zero_mul,Int.mul_zero] at e
  have:=valL_nonneg h.uo
  omega
theorem LgI.neg {M n:Nat} {a:Int} {b j:Nat} {u qs:List Int} (h:LgI M n a (b:Int) (j+1) u qs) {g:Int} (hg:0≤g∧g<1000000000) (hdn:g*(b:Int)<valL (u.drop j)+(b:Int)) (hup:valL (u.drop j)<(g+1)*(b:Int))
    {u2:List Int} {bo ca:Int} (hm:MsI u j g (digs b) n u2 bo ca) (hn:(digs b).length=n) (hd:u2.getD (j+n) 0 - bo - ca<0)
    {u4:List Int} {c:Int} (hb:AbI (u2.set (j+n) (u2.getD (j+n) 0 - bo - ca+1000000000)) j (digs b) n u4 c):1≤g∧LgI M n a (b:Int) j (u4.set (j+n) ((u4.getD (j+n) 0+c)%1000000000)) ((g - 1) :: qs):=by
  have hj:=h.jle
  have hx:=okL_getD hm.ok (j+n)
  have hy:=okL_getD hb.ok (j+n)
  have h1:=hm.b0;have h2:=hm.c0;have h3:=hm.b1;have h4:=hm.c1;have c0:=hb.c0;have c1:=hb.c1
  have hlen2:j+n<u2.length:=by rw [hm.len,h.ul];omega
  have hlen4:j+n<u4.length:=by rw [hb.len,List.length_set];exact hlen2
  have hhi:=h.high hn
  have hhi2:valL (u2.drop (j+n+1))=0:=by rw [drop_far hm.len (fun i hi=>hm.far i (by omega))];exact hhi
  have s2:=at_split hlen2 hhi2
  have t2:=valL_take_lt hm.ok (j+n)
  have hp:=pw_pos (j+n)
  -- what the subtraction left is below 0
  have hS:valL u - pw j*(g*(b:Int))<0:=by
    have e:=hm.eq
    rw [List.take_of_length_le (by omega),valL_digs] at e
    have:pw (j+n)*(u2.getD (j+n) 0 - bo - ca)≤pw (j+n)*(-1):=Int.mul_le_mul_of_nonneg_left (by omega) (Int.le_of_lt hp)
    rw [Int.mul_sub,Int.mul_sub] at this
    rw [Int.mul_add] at e
    omega
  have hlow:=h.low hdn
  have hg1:1≤g:=by
    refine Decidable.byContradiction fun hc=> ?_
    have:g=0:=by omega
    subst this
    have:=valL_nonneg h.uo
    simp at hS;omega
  refine ⟨hg1,?_⟩
  have e4:=hb.eq
  rw [List.take_of_length_le (by omega),valL_digs,valL_set _ hlen2] at e4
  have e2:=hm.eq
  rw [List.take_of_length_le (by omega),valL_digs] at e2
  have hhi4:valL (u4.drop (j+n+1))=0:=by
    rw [drop_far (u:=u2.set (j+n) (u2.getD (j+n) 0 - bo - ca+1000000000)) hb.len (fun i hi=>hb.far i (by omega)),drop_far (u:=u2) (by simp) (fun i hi=>getD_set_ne (by omega) _)];exact hhi2
  have s4:=at_split hlen4 hhi4
  have t4:=valL_take_lt hb.ok (j+n)
  have hk:=Int.mul_ediv_add_emod (u4.getD (j+n) 0+c) 1000000000
  have hk0:=Int.emod_nonneg (u4.getD (j+n) 0+c) (show (1000000000:Int)≠0 by decide)
  have hk1:=Int.emod_lt_of_pos (u4.getD (j+n) 0+c) (show (0:Int)<1000000000 by decide)
  have hset:valL (u4.set (j+n) ((u4.getD (j+n) 0+c)%1000000000))=valL u4+pw (j+n)*((u4.getD (j+n) 0+c)%1000000000 - u4.getD (j+n) 0):=valL_set _ hlen4
  have hbig:(b:Int)<pw n:=by rw [← hn];exact digs_lt b
  have hbw:pw j*(b:Int)<pw (j+n):=by rw [pw_add];exact Int.mul_lt_mul_of_pos_left hbig (pw_pos j)
  -- the last group overflows
  have hco:(u4.getD (j+n) 0+c) / 1000000000=1:=by
    have hq:(u4.getD (j+n) 0+c) / 1000000000=0∨(u4.getD (j+n) 0+c) / 1000000000=1:=by omega
    rcases hq with hq|hq
    · exfalso
      have hy2:u4.getD (j+n) 0+c≤999999999:=by omega
      have m1:pw (j+n)*(u4.getD (j+n) 0+c)≤pw (j+n)*999999999:=Int.mul_le_mul_of_nonneg_left hy2 (Int.le_of_lt hp)
      rw [Int.mul_add] at m1
      have m2:pw (j+n)*(u2.getD (j+n) 0 - bo - ca+1000000000 - u2.getD (j+n) 0)=pw (j+n)*1000000000 - pw (j+n)*(bo+ca):=by grind
      rw [m2] at e4
      omega
    · exact hq
  have he:valL (u4.set (j+n) ((u4.getD (j+n) 0+c)%1000000000))=valL u - pw j*((g - 1)*(b:Int)):=by
    rw [hset,e4,e2]
    have hr:(u4.getD (j+n) 0+c)%1000000000=u4.getD (j+n) 0+c - 1000000000:=by omega
    rw [hr]
    grind
  refine h.next (by rw [List.length_set,hb.len,List.length_set,hm.len,h.ul]) (okL_set hb.ok hk0 hk1) ⟨by omega,by omega⟩ he ?_
  rw [he]
  have e:pw j*((g - 1)*(b:Int))=pw j*(g*(b:Int)) - (b:Int)*pw j:=by grind
  omega
theorem LgI.start {M n a b:Nat} {u:List Int} (ho:okL u) (hl:u.length=M) (hv:valL u=(a:Int)) (hn:(digs b).length=n) (hM:n+1≤M) (hu:valL u<pw (M - 1)) (h1:1≤n):LgI M n (a:Int) (b:Int) (M - n) u []:=by
  refine ⟨hl,ho,by simp,okL_nil,by omega,by rw [hv];simp [valL],?_⟩
  have h2:pw (n - 1)≤(b:Int):=digs_low (by omega)
  have h3:pw (M - 1)=pw (n - 1)*pw (M - n):=by rw [← pw_add];congr 1;omega
  have h4:pw (n - 1)*pw (M - n)≤(b:Int)*pw (M - n):=mul_le_of (Int.le_of_lt (pw_pos _)) h2
  omega
theorem LgI.fin {M n a b:Nat} {u qs:List Int} (h:LgI M n (a:Int) (b:Int) 0 u qs) (hn:(digs b).length=n):trimL qs=digs (a / b)∧trimL (u.take n)=digs (a%b):=by
  have e:=h.eq;have hlt:=h.lt
  rw [pw_zero,Int.mul_one] at e hlt
  have h0:=valL_nonneg h.uo;have hq0:=valL_nonneg h.qo
  have hu:valL u=((a%b:Nat):Int):=by
    rw [Int.natCast_emod,←e,Int.add_mul_emod_self_left,Int.emod_eq_of_lt h0 hlt]
  have hq:valL qs=((a / b:Nat):Int):=by
    rw [Int.natCast_ediv,←e,Int.add_mul_ediv_left _ _ (by omega),Int.ediv_eq_zero_of_lt h0 hlt];omega
  refine ⟨trimL_of h.qo hq,trimL_of (okL_take h.uo n) ?_⟩
  have h1:=h.jle
  have hc:=valL_cut u n (by rw [h.ul];omega)
  have hz:valL (u.drop n)=0:=drop_high h.uo (by have:=digs_lt b;rw [hn] at this;omega)
  rw [hz,Int.mul_zero,Int.add_zero] at hc
  rw [← hc,hu]
end Go.Proofs.Ytefbbhiaalcjfaa.Big
namespace Go.Proofs.Ytefbbhiaalcjfaa.Big
def fq (x y:Int):Int:=if 0<y then x / y else (-x) / (-y)
def fr (x y:Int):Int:=x - y*fq x y
theorem ediv_of {x y q r:Int} (h:x=y*q+r) (h0:0≤r) (h1:r<y):x / y=q:=by
  rw [h,Int.add_comm,Int.add_mul_ediv_left _ _ (by omega),Int.ediv_eq_zero_of_lt h0 h1];omega
theorem fq_of {x y q r:Int} (h:x=y*q+r) (hr:(0<y∧0≤r∧r<y)∨(y<0∧y<r∧r≤0)):fq x y=q∧fr x y=r:=by
  have e:fq x y=q:=by
    unfold fq
    rcases hr with ⟨h1,h2,h3⟩|⟨h1,h2,h3⟩
    · rw [if_pos h1];exact ediv_of h h2 h3
    · rw [if_neg (by omega)]
      exact ediv_of (r:= -r) (by rw [h,Int.neg_mul];omega) (by omega) (by omega)
  refine ⟨e,?_⟩
  unfold fr;rw [e];omega
theorem abs_split (x y:Int):(x.natAbs:Int)=(y.natAbs:Int)*((x.natAbs / y.natAbs:Nat):Int)+((x.natAbs%y.natAbs:Nat):Int):=by
  rw [← Int.natCast_mul,←Int.natCast_add,Nat.div_add_mod]
theorem sg_t (n:Int):sg true n= -n:=rfl
theorem sg_f (n:Int):sg false n=n:=rfl
theorem fq_same {x y:Int} (hy:y≠0) (h:decide (x<0)=decide (y<0)):sg false ((x.natAbs / y.natAbs:Nat):Int)=fq x y∧sg (decide (y<0)) ((x.natAbs%y.natAbs:Nat):Int)=fr x y:=by
  have e:=abs_split x y
  have hlt:=Nat.mod_lt x.natAbs (show 0<y.natAbs by omega)
  generalize x.natAbs / y.natAbs=q at*
  generalize x.natAbs%y.natAbs=r at*
  rw [sg_f]
  by_cases hy0:y<0
  · have hx : x < 0 := by simpa [hy0] using h
    rw [decide_eq_true hy0,sg_t]
    have:=fq_of (x:=x) (y:=y) (q:=(q:Int)) (r:= -(r:Int)) (by
      have h1:(y.natAbs:Int)= -y:=by omega
      rw [h1,Int.neg_mul] at e;omega) (.inr (by omega))
    exact ⟨this.1.symm,this.2.symm⟩
  · have hx : ¬ x < 0 := by simpa [hy0] using h
    rw [decide_eq_false hy0,sg_f]
    have:=fq_of (x:=x) (y:=y) (q:=(q:Int)) (r:=(r:Int)) (by
      have h1:(y.natAbs:Int)=y:=by omega
      rw [h1] at e;omega) (.inl (by omega))
    exact ⟨this.1.symm,this.2.symm⟩
theorem fq_even {x y:Int} (hy:y≠0) (h:¬decide (x<0)=decide (y<0)) (hr:x.natAbs%y.natAbs=0):sg true ((x.natAbs / y.natAbs:Nat):Int)=fq x y∧sg (decide (y<0)) ((x.natAbs%y.natAbs:Nat):Int)=fr x y:=by
  have e:=abs_split x y
  rw [hr] at e ⊢
  generalize x.natAbs / y.natAbs=q at*
  rw [sg_t,show sg (decide (y<0)) ((0:Nat):Int)=0 from sg_zero _]
  have hs:x=y*(-(q:Int))+0:=by
    rw [Int.mul_neg]
    by_cases hy0:y<0
    · have hx : ¬ x < 0 := by simpa [hy0] using h
      have h1:(y.natAbs:Int)= -y:=by omega
      rw [h1,Int.neg_mul] at e;omega
    · have hx : x < 0 := by simpa [hy0] using h
      have h1:(y.natAbs:Int)=y:=by omega
      rw [h1] at e;omega
  have:=fq_of hs (by omega)
  exact ⟨this.1.symm,this.2.symm⟩
theorem fq_odd {x y:Int} (hy:y≠0) (h:¬decide (x<0)=decide (y<0)) (hr:x.natAbs%y.natAbs≠0):sg true ((x.natAbs / y.natAbs+1:Nat):Int)=fq x y∧sg (decide (y<0)) ((y.natAbs - x.natAbs%y.natAbs:Nat):Int)=fr x y:=by
  have e:=abs_split x y
  have hlt:=Nat.mod_lt x.natAbs (show 0<y.natAbs by omega)
  generalize x.natAbs / y.natAbs=q at*
  generalize x.natAbs%y.natAbs=r at*
  rw [sg_t]
  by_cases hy0:y<0
  · have hx : ¬ x < 0 := by simpa [hy0] using h
    rw [decide_eq_true hy0,sg_t]
    have:=fq_of (x:=x) (y:=y) (q:= -((q+1:Nat):Int)) (r:= -((y.natAbs - r:Nat):Int)) (by
      have h1:(y.natAbs:Int)= -y:=by omega
      rw [h1,Int.neg_mul] at e
      rw [Int.mul_neg,Int.natCast_add,Int.mul_add];omega) (.inr (by omega))
    exact ⟨this.1.symm,this.2.symm⟩
  · have hx : x < 0 := by simpa [hy0] using h
    rw [decide_eq_false hy0,sg_f]
    have:=fq_of (x:=x) (y:=y) (q:= -((q+1:Nat):Int)) (r:=((y.natAbs - r:Nat):Int)) (by
      have h1:(y.natAbs:Int)=y:=by omega
      rw [h1] at e
      rw [Int.mul_neg,Int.natCast_add,Int.mul_add];omega) (.inl (by omega))
    exact ⟨this.1.symm,this.2.symm⟩
theorem fr_nonneg {x y:Int} (h:0<y):fq x y=x / y∧fr x y=x%y:=by
  have e:fq x y=x / y:=by unfold fq;rw [if_pos h]
  refine ⟨e,?_⟩
  unfold fr;rw [e]
  have:=Int.mul_ediv_add_emod x y;omega
theorem gcd_rest {a b:Nat}:Nat.gcd b (a%b)=Nat.gcd a b:=by rw [Nat.gcd_comm b,←Nat.gcd_rec,Nat.gcd_comm]
theorem ln_mono' {a b:Nat} (h:a≤b):(digs a).length≤(digs b).length:=by
  refine digs_len ?_
  have:=digs_lt b;omega
theorem len_mul_ge {a s:Nat} (h:1≤s):(digs a).length≤(digs (a*s)).length:=ln_mono' (Nat.le_mul_of_pos_right a h)
theorem len_mul_le (a s:Nat):(digs (a*s)).length≤(digs a).length+(digs s).length:=by
  refine digs_len ?_
  rw [Int.natCast_mul,pw_add]
  have h1:(a:Int)*s≤pw (digs a).length*s:=Int.mul_le_mul_of_nonneg_right (Int.le_of_lt (digs_lt a)) (by omega)
  have h2:pw (digs a).length*(s:Int)<pw (digs a).length*pw (digs s).length:=Int.mul_lt_mul_of_pos_left (digs_lt s) (pw_pos _)
  omega
theorem scale_len {b n:Nat} (hn:(digs b).length=n+1) {s:Nat} (hs:s=(1000000000 / ((digs b).getD n 0+1)).toNat):1≤s∧s≤500000000∧(digs (b*s)).length=n+1:=by
  have ht:=digs_top hn
  have ho:=okL_getD (digs_ok b) n
  have h1:1≤1000000000 / ((digs b).getD n 0+1):=by
    refine Int.le_ediv_of_mul_le (by omega) (by omega)
  have h2:1000000000 / ((digs b).getD n 0+1)≤500000000:=by
    refine Int.ediv_le_of_le_mul (by omega) (by omega)
  have hs1:(s:Int)=1000000000 / ((digs b).getD n 0+1):=by rw [hs];exact Int.toNat_of_nonneg (by omega)
  refine ⟨by omega,by omega,?_⟩
  have hge:=len_mul_ge (a:=b) (s:=s) (by omega)
  have hle:(digs (b*s)).length≤n+1:=by
    refine digs_len ?_
    have hv:=valL_digs b
    have hc:=valL_cut (digs b) n (by omega)
    have hd:valL ((digs b).drop n)=(digs b).getD n 0:=by rw [valL_drop,List.drop_eq_nil_of_le (by omega)];simp [valL]
    have hl:=valL_take_lt (digs_ok b) n
    rw [hd] at hc
    have hp:=pw_pos n
    have hb:(b:Int)<((digs b).getD n 0+1)*pw n:=by rw [Int.add_mul,Int.mul_comm _ (pw n)];omega
    have hm:((digs b).getD n 0+1)*(s:Int)≤1000000000:=by rw [hs1];exact Int.mul_ediv_self_le (by omega)
    rw [Int.natCast_mul,pw_succ]
    have h3:(b:Int)*s<((digs b).getD n 0+1)*pw n*s:=Int.mul_lt_mul_of_pos_right hb (by omega)
    have h4:((digs b).getD n 0+1)*pw n*s=((digs b).getD n 0+1)*s*pw n:=by ac_rfl
    have h5:((digs b).getD n 0+1)*(s:Int)*pw n≤1000000000*pw n:=mul_le_of (Int.le_of_lt hp) hm
    omega
  omega
theorem scale_div {a b s:Nat} (hs:1≤s):a*s / (b*s)=a / b∧a*s%(b*s) / s=a%b:=by
  refine ⟨Nat.mul_div_mul_right a b (by omega),?_⟩
  rw [Nat.mul_mod_mul_right,Nat.mul_div_cancel _ (by omega)]
theorem digs_one {s:Nat} (h1:1≤s) (h2:s<1000000000):digs s=[(s:Int)]:=by
  rw [digs_pos (by omega),Nat.mod_eq_of_lt h2,Nat.div_eq_of_lt h2,digs_zero]
theorem mul_lim3 {g x:Int} (h0:0≤g) (h1:g≤2000000000) (h2:0≤x) (h3:x<1000000000):0≤g*x∧g*x≤2000000000000000000:=by
  have a:=Int.mul_nonneg h0 h2
  have b:g*x≤2000000000*x:=mul_le_of h2 h1
  omega
theorem one_digit {b:Nat} (h:(digs b).length=1):(digs b).getD 0 0=(b:Int):=by
  have h1:=valL_cut (digs b) 0 (Nat.zero_le _)
  have h2:=valL_drop (digs b) 0
  rw [List.drop_eq_nil_of_le (show (digs b).length≤0+1 by omega)] at h2
  rw [valL_digs,h2] at h1
  simp [valL,pw_zero] at h1;exact h1.symm
theorem zze {b:Nat} (h:0<b):1≤(digs b).length:=by
  refine Nat.pos_of_ne_zero fun e=> ?_
  have:=len_digs_nil.1 e;omega
theorem two_lt {a:Nat} (h:(digs a).length≤2):a<1000000000000000000:=by
  have h1:=digs_lt a
  have h2:=pw_mono h
  have:pw 2=1000000000000000000:=by decide
  omega
theorem word_step {A:List Int} (k:Nat):valL (A.drop (k+1))*1000000000+A.getD k 0=valL (A.drop k):=by rw [valL_drop A k];omega
theorem word_keep {a k:Nat} {z:Int} (h:k+1≤(digs a).length) (hz:z=valL ((digs a).drop (k+1))):(z*1000000000+(digs a).getD k 0)*pw k≤(a:Int):=by
  have h1:=valL_cut (digs a) k (by omega)
  rw [valL_digs,valL_drop,←hz] at h1
  have h2:=valL_take_lt (digs_ok a) k
  have:(z*1000000000+(digs a).getD k 0)*pw k=pw k*((digs a).getD k 0+1000000000*z):=by grind
  omega
theorem word_lim {a k:Nat} {z:Int} (hl:(digs a).length≤2) (h:k+1≤(digs a).length) (h0:0≤z) (hp:z*pw (k+1)≤(a:Int)):z<1000000000:=by
  have h1:=two_lt hl
  have h2:=pw_mono (show 1≤k+1 by omega)
  have h3:pw 1=1000000000:=by decide
  refine Decidable.byContradiction fun hc=> ?_
  have h4:1000000000*pw (k+1)≤z*pw (k+1):=mul_le_of (Int.le_of_lt (pw_pos _)) (by omega)
  omega
theorem sign_le {x:Int}:(x<0∧x.sign= -1)∨(x=0∧x.sign=0)∨(0<x∧x.sign=1):=by
  rcases Int.lt_trichotomy x 0 with h|h|h
  · exact .inl ⟨h,Int.sign_eq_neg_one_of_neg h⟩
  · exact .inr (.inl ⟨h,by rw [h];rfl⟩)
  · exact .inr (.inr ⟨h,Int.sign_eq_one_of_pos h⟩)
end Go.Proofs.Ytefbbhiaalcjfaa.Big
namespace Go.Proofs.Ytefbbhiaalcjfaa.Big
structure ScI (A:List Int) (d:Int) (i:Nat) (os:List Int) (cy:Int):Prop where
  le:i≤A.length
  len:os.length=i
  ok:okL os
  c0:0≤cy
  c1:cy<1000000000
  val:valL os+pw i*cy=valL (A.take i)*d
theorem ScI.start (A:List Int) (d:Int):ScI A d 0 [] 0:=⟨Nat.zero_le _,rfl,okL_nil,by decide,by decide,by simp [valL]⟩
theorem sc_lim {x d cy:Int} (hx:0≤x∧x<1000000000) (hd:0≤d∧d<1000000000) (hc:0≤cy∧cy<1000000000):0≤x*d∧x*d+cy<1000000000000000000∧0≤(x*d+cy) / 1000000000∧(x*d+cy) / 1000000000<1000000000:=by
  have:=mul_lim hx hd;omega
theorem ScI.step {A:List Int} {d:Int} {i:Nat} {os:List Int} {cy:Int} (h:ScI A d i os cy) (hA:okL A) (hd:0≤d∧d<1000000000) (hi:i<A.length):
    ScI A d (i+1) (os++[(A.getD i 0*d+cy)%1000000000]) ((A.getD i 0*d+cy) / 1000000000):=by
  have hl:=sc_lim (okL_getD hA i) hd ⟨h.c0,h.c1⟩
  refine ⟨by omega,by simp [h.len],okL_snoc h.ok (by omega) (by omega),hl.2.2.1,hl.2.2.2,?_⟩
  rw [valL_snoc,h.len,valL_take_succ,pw_succ]
  have e:=h.val
  have hs:(A.getD i 0*d+cy)=1000000000*((A.getD i 0*d+cy) / 1000000000)+(A.getD i 0*d+cy)%1000000000:=by omega
  generalize (A.getD i 0*d+cy) / 1000000000=q at*
  generalize (A.getD i 0*d+cy)%1000000000=r at*
  have h2:pw i*(A.getD i 0*d+cy)=pw i*(1000000000*q+r):=by rw [hs]
  generalize A.getD i 0=x at*
  generalize valL os=a at*
  generalize valL (A.take i)=b at*
  generalize pw i=p at*
  grind
theorem ScI.fin {a d i:Nat} {os:List Int} {cy:Int} (h:ScI (digs a) (d:Int) i os cy) (hi:(digs a).length≤i):okL (os++[cy])∧valL (os++[cy])=((a*d:Nat):Int):=by
  refine ⟨okL_snoc h.ok h.c0 h.c1,?_⟩
  rw [valL_snoc,h.len,h.val,List.take_of_length_le hi,valL_digs,Int.natCast_mul]
theorem pair_val {a:Nat} (h:(digs a).length≤2):(digs a).getD 1 0*1000000000+(digs a).getD 0 0=(a:Int):=by
  have h0:=valL_drop (digs a) 0
  have h1:=valL_drop (digs a) 1
  rw [List.drop_zero,valL_digs] at h0
  have h2:valL ((digs a).drop 2)=0:=by rw [List.drop_eq_nil_of_le h];rfl
  simp only [Nat.zero_add,Nat.reduceAdd] at h0 h1
  omega
theorem two_val {u:Nat} (h:u<1000000000000000000):okL [((u%1000000000:Nat):Int),((u / 1000000000:Nat):Int)]∧valL [((u%1000000000:Nat):Int),((u / 1000000000:Nat):Int)]=(u:Int):=by
  refine ⟨okL_cons.2 ⟨by omega,okL_cons.2 ⟨by omega,okL_nil⟩⟩,?_⟩
  simp only [valL];omega
theorem valL_cut' (A:List Int) (k:Nat):valL A=valL (A.take k)+pw k*valL (A.drop k):=by
  by_cases h:k≤A.length
  · exact valL_cut A k h
  · rw [List.drop_eq_nil_of_le (by omega),List.take_of_length_le (by omega)];simp [valL]
structure PtI (A V:Nat) (j:Nat) (qs:List Int) (R:Nat):Prop where
  le:j≤(digs A).length
  ok:okL qs
  val:valL ((digs A).drop j)=valL qs*V+R
  lt:R<V
theorem PtI.start {A V n j R:Nat} (hV:(digs V).length=n+1) (hj:j+n=(digs A).length) (hR:valL ((digs A).drop j)=(R:Int)):PtI A V j [] R:=by
  refine ⟨by omega,okL_nil,by rw [hR];simp [valL],?_⟩
  have h1:=valL_lt (okL_drop (digs_ok A) j)
  rw [hR,List.length_drop,show (digs A).length - j=n by omega] at h1
  have h2:=digs_low (k:=n) (n:=V) (by omega)
  omega
theorem pt_lim {V R d:Nat} (h:R<V) (hd:d<1000000000):R*1000000000+d<V*1000000000:=by omega
theorem PtI.step {A V j:Nat} {qs:List Int} {R d g r:Nat} (h:PtI A V (j+1) qs R) (hd:(digs A).getD j 0=(d:Int)) (hg:r+V*g=R*1000000000+d) (hr:r<V):PtI A V j ((g:Int) :: qs) r:=by
  have hd1:=okL_getD (digs_ok A) j
  have hgl:g<1000000000:=by
    have h1:=pt_lim h.lt (show d<1000000000 by omega)
    exact Nat.lt_of_mul_lt_mul_left (a:=V) (by omega)
  refine ⟨Nat.le_of_succ_le h.le,okL_cons.2 ⟨by omega,h.ok⟩,?_,hr⟩
  rw [valL_drop,h.val,hd]
  simp only [valL]
  have hg2:(r:Int)+(V:Int)*(g:Int)=(R:Int)*1000000000+(d:Int):=by
    rw [← Int.natCast_mul];omega
  generalize valL qs=q at*
  grind
theorem pt_guess {W V m d:Nat} (hW:W<V*1000000000) (hV:(digs V).length=m+1) (hd:(d:Int)=((digs W).getD (m+1) 0*1000000000+(digs W).getD m 0) / ((digs V).getD m 0+1)):V*d≤W∧d<1000000000:=by
  have hw:=valL_cut' (digs W) m
  have hv:=valL_cut' (digs V) m
  rw [valL_digs] at hw hv
  have h1:=valL_drop (digs W) m
  have h2:=valL_drop (digs W) (m+1)
  have h3:=valL_nonneg (okL_drop (digs_ok W) (m+1+1))
  have h4:=valL_drop (digs V) m
  rw [List.drop_eq_nil_of_le (by omega:(digs V).length≤m+1)] at h4
  have h5:=valL_take_lt (digs_ok W) m
  have h6:=valL_take_lt (digs_ok V) m
  have h7:=okL_getD (digs_ok V) m
  have hp:=pw_pos m
  have h8:valL ([]:List Int)=0:=rfl
  have h9:=Int.mul_ediv_self_le (x:=(digs W).getD (m+1) 0*1000000000+(digs W).getD m 0) (k:=(digs V).getD m 0+1) (by omega)
  rw [← hd] at h9
  have key:(V:Int)*(d:Int)≤(W:Int):=by
    have a1:(V:Int)≤((digs V).getD m 0+1)*pw m:=by
      rw [h8,Int.mul_zero,Int.add_zero] at h4;rw [hv,h4,Int.add_mul,Int.one_mul,Int.mul_comm (pw m)];omega
    have a2:((digs W).getD (m+1) 0*1000000000+(digs W).getD m 0)*pw m≤(W:Int):=by
      have:(digs W).getD (m+1) 0*1000000000+(digs W).getD m 0≤valL ((digs W).drop m):=by omega
      have:=mul_le_of (Int.le_of_lt hp) this
      rw [Int.mul_comm (valL _)] at this;omega
    have a3:=mul_le_of (w:=(d:Int)) (by omega) a1
    have a4:=mul_le_of (Int.le_of_lt hp) h9
    have a5:((digs V).getD m 0+1)*pw m*(d:Int)=((digs V).getD m 0+1)*(d:Int)*pw m:=by grind
    omega
  have k2:V*d≤W:=by rw [← Int.natCast_mul] at key;omega
  exact ⟨k2,Nat.lt_of_mul_lt_mul_left (a:=V) (by omega)⟩
theorem PtI.fin {A V:Nat} {qs:List Int} {R:Nat} (h:PtI A V 0 qs R):valL qs=((A / V:Nat):Int)∧R=A%V:=by
  have h0:=h.val
  rw [List.drop_zero,valL_digs] at h0
  have hn:=valL_nonneg h.ok
  have hl:=h.lt
  obtain ⟨q,hq⟩:∃q:Nat,valL qs=(q:Int):=⟨(valL qs).toNat,by omega⟩
  rw [hq,←Int.natCast_mul] at h0
  have h1:A=R+V*q:=by rw [Nat.mul_comm];omega
  rw [hq,h1,Nat.add_mul_div_left _ _ (by omega),Nat.div_eq_of_lt hl,Nat.add_mul_mod_self_left,Nat.mod_eq_of_lt hl]
  simp
theorem pt_wlen {W V m:Nat} (hW:W<V*1000000000) (hV:(digs V).length=m+1):(digs W).length≤m+2:=by
  refine digs_len ?_
  have h1:=digs_lt V
  rw [hV] at h1
  rw [pw_succ];omega
theorem made_nat {l:List Int} {n:Nat} (ho:okL l) (h:valL l=(n:Int)):(sg false (valL l)).natAbs=n:=by
  rw [sg_abs (valL_nonneg ho),h];exact Int.toNat_natCast _
theorem ln_fq {x y:Int} (hy:y≠0):ln (fq x y)≤ln x+2:=by
  have key:(fq x y).natAbs≤x.natAbs+1:=by
    have hd:=Nat.div_le_self x.natAbs y.natAbs
    by_cases h:decide (x<0)=decide (y<0)
    · rw [← (fq_same hy h).1,sg_f,Int.natAbs_natCast];omega
    · by_cases hr : x.natAbs % y.natAbs = 0
      · rw [← (fq_even hy h hr).1,sg_t,Int.natAbs_neg,Int.natAbs_natCast];omega
      · rw [← (fq_odd hy h hr).1,sg_t,Int.natAbs_neg,Int.natAbs_natCast];omega
  unfold ln
  have h1:=ln_mono' key
  have h2:=len_add x.natAbs 1
  have h3:(digs 1).length=1:=by decide
  omega
end Go.Proofs.Ytefbbhiaalcjfaa.Big
namespace Go.Proofs.Ytefbbhiaalcjfaa.Big
abbrev RQ:=(Bool×List Int)×(Bool×List Int)
def qok (x:RQ):Prop:=canon x.1.1 x.1.2∧canon x.2.1 x.2.2∧0<raw x.2.1 x.2.2∧Nat.gcd (raw x.1.1 x.1.2).natAbs (raw x.2.1 x.2.2).natAbs=1
instance (x:RQ):Decidable (qok x):=inferInstanceAs (Decidable (_∧_))
def qv (x:RQ):Rat:=if qok x then Rat.divInt (raw x.1.1 x.1.2) (raw x.2.1 x.2.2) else 0
theorem divInt_parts {n d:Int} (hd:d≠0):(Rat.divInt n d).num=d.sign*n / (Nat.gcd n.natAbs d.natAbs:Nat)∧((Rat.divInt n d).den:Int)=((d.natAbs / Nat.gcd n.natAbs d.natAbs:Nat):Int):=by
  rw [Rat.num_divInt,Rat.den_divInt,if_neg hd]
  have:Int.gcd d n=Nat.gcd n.natAbs d.natAbs:=by unfold Int.gcd;rw [Nat.gcd_comm]
  rw [this];exact ⟨rfl,rfl⟩
theorem qv_parts {x:RQ} (h:qok x):(qv x).num=raw x.1.1 x.1.2∧((qv x).den:Int)=raw x.2.1 x.2.2:=by
  unfold qv;rw [if_pos h]
  obtain ⟨_,_,h3,h4⟩:=h
  obtain ⟨e1,e2⟩:=divInt_parts (n:=raw x.1.1 x.1.2) (d:=raw x.2.1 x.2.2) (by omega)
  rw [e1,e2,h4,Int.sign_eq_one_of_pos h3]
  refine ⟨by simp,by rw [Nat.div_one];omega⟩
theorem qv_not {x:RQ} (h:¬qok x):qv x=0:=by unfold qv;rw [if_neg h]
def rq (q:Rat):RQ:=((decide (q.num<0),digs q.num.natAbs),(decide ((q.den:Int)<0),digs (q.den:Int).natAbs))
theorem rq_ok (q:Rat):qok (rq q):=by
  refine ⟨canon_digs _,canon_digs _,?_,?_⟩
  · simp only [rq];rw [raw_big];have:=q.den_pos;omega
  · simp only [rq];rw [raw_big,raw_big,Int.natAbs_natCast];exact q.reduced
theorem rq_v (q:Rat):qv (rq q)=q:=by
  obtain ⟨h1,h2⟩:=qv_parts (rq_ok q)
  refine Rat.ext ?_ ?_
  · rw [h1];simp only [rq];rw [raw_big]
  · have : ((qv (rq q)).den : Int) = (q.den : Int) := by rw [h2]; simp only [rq]; rw [raw_big]
    omega
def hq (q:Rat):Nat:=max (ln q.num) (ln (q.den:Int))
theorem hq_num (q:Rat):ln q.num≤hq q:=Nat.le_max_left _ _
theorem hq_den (q:Rat):ln (q.den:Int)≤hq q:=Nat.le_max_right _ _
theorem hq_divInt {n d:Int} (hd:d≠0):hq (Rat.divInt n d)≤max (ln n) (ln d):=by
  obtain ⟨e1,e2⟩:=divInt_parts (n:=n) hd
  unfold hq
  rw [e1,e2]
  have h1:ln (d.sign*n / (Nat.gcd n.natAbs d.natAbs:Nat))≤ln n:=by
    refine ztd ?_
    refine Nat.le_trans (Int.natAbs_ediv_le_natAbs _ _) ?_
    rw [Int.natAbs_mul,Int.natAbs_sign_of_ne_zero hd,Nat.one_mul];exact Nat.le_refl _
  have h2:ln ((d.natAbs / Nat.gcd n.natAbs d.natAbs:Nat):Int)≤ln d:=by
    refine ztd ?_
    rw [Int.natAbs_natCast];exact Nat.div_le_self _ _
  omega
theorem den_ne (q:Rat):(q.den:Int)≠0:=by have:=q.den_pos;omega
theorem add_parts (x y:Rat):x+y=Rat.divInt (x.num*y.den+y.num*x.den) (x.den*y.den):=by
  rw [Rat.add_def',←Int.natCast_mul,Rat.divInt_ofNat]
theorem hq_add (x y:Rat):hq (x+y)≤hq x+hq y+1:=by
  rw [add_parts]
  refine Nat.le_trans (hq_divInt (Int.mul_ne_zero (den_ne x) (den_ne y))) ?_
  have h1:=zLd (x.num*y.den) (y.num*x.den)
  have h2:=zVb x.num y.den;have h3:=zVb y.num x.den;have h4:=zVb x.den y.den
  have a:=hq_num x;have b:=hq_den x;have c:=hq_num y;have d:=hq_den y
  omega
theorem hq_neg (x:Rat):hq (-x)=hq x:=by unfold hq;rw [Rat.neg_num,Rat.neg_den,zX]
theorem hq_sub (x y:Rat):hq (x - y)≤hq x+hq y+1:=by
  rw [Rat.sub_eq_add_neg];have:=hq_add x (-y);rw [hq_neg] at this;exact this
theorem ln_one:ln 1=1:=by decide
theorem hq_int (z:Int):hq (z:Rat)≤max (ln z) 1:=by
  unfold hq;rw [Rat.num_intCast,Rat.den_intCast];exact Nat.le_of_eq (by rw [show ((1:Nat):Int)=1 from rfl,ln_one])
theorem hq_zero:hq 0=1:=by decide
theorem hq_64 {z:Int} (h1: -9223372036854775808≤z) (h2:z≤9223372036854775807):hq (z:Rat)≤3:=by
  have:=zxe h1 h2;have:=hq_int z;omega
theorem gcd_pos_right {n d:Int} (hd:d≠0):0<Nat.gcd n.natAbs d.natAbs:=Nat.gcd_pos_of_pos_right _ (by omega)
theorem red_pos {n d:Int} (hd:0<d):fq n (Nat.gcd n.natAbs d.natAbs:Nat)=(Rat.divInt n d).num∧fq d (Nat.gcd n.natAbs d.natAbs:Nat)=((Rat.divInt n d).den:Int):=by
  obtain ⟨e1,e2⟩:=divInt_parts (n:=n) (d:=d) (by omega)
  have hg:=gcd_pos_right (n:=n) (d:=d) (by omega)
  rw [e1,e2,Int.sign_eq_one_of_pos hd,Int.one_mul]
  rw [(fr_nonneg (x:=n) (y:=(Nat.gcd n.natAbs d.natAbs:Nat)) (by omega)).1,(fr_nonneg (x:=d) (y:=(Nat.gcd n.natAbs d.natAbs:Nat)) (by omega)).1]
  refine ⟨rfl,?_⟩
  rw [Int.natCast_ediv,Int.natAbs_of_nonneg (by omega)]
theorem red_flip {n d:Int} (hd:d<0):fq (-n) (Nat.gcd (-n).natAbs (-d).natAbs:Nat)=(Rat.divInt n d).num∧fq (-d) (Nat.gcd (-n).natAbs (-d).natAbs:Nat)=((Rat.divInt n d).den:Int):=by
  have:=red_pos (n:= -n) (d:= -d) (by omega)
  rw [Rat.neg_divInt_neg] at this;exact this
theorem fq_negneg (x y:Int) (hy:y≠0):fq x (-y)=fq (-x) y:=by
  unfold fq
  by_cases h:0<y
  · rw [if_neg (by omega),if_pos h,Int.neg_neg]
  · rw [if_pos (by omega),if_neg h,Int.neg_neg]
theorem red_neg {n d:Int} (hd:d<0):fq n (-(Nat.gcd n.natAbs d.natAbs:Nat))=(Rat.divInt n d).num∧fq d (-(Nat.gcd n.natAbs d.natAbs:Nat))=((Rat.divInt n d).den:Int):=by
  have hg:=gcd_pos_right (n:=n) (d:=d) (by omega)
  rw [fq_negneg _ _ (by omega),fq_negneg _ _ (by omega)]
  have:=red_flip (n:=n) hd
  rw [Int.natAbs_neg,Int.natAbs_neg] at this;exact this
def sgq (q:Rat):Int:=q.num.sign
theorem cmp_sub (a b:Int):cmp a b=(a - b).sign:=by
  unfold cmp
  split
  · rw [Int.sign_eq_neg_one_of_neg (by omega)]
  · split
    · rw [Int.sign_eq_one_of_pos (by omega)]
    · rw [show a - b=0 by omega];rfl
theorem sgq_zero {x:Rat}:sgq x=0↔x=0:=by unfold sgq;rw [Int.sign_eq_zero_iff_zero,Rat.num_eq_zero]
theorem sgq_sub_zero {x y:Rat}:sgq (x - y)=0↔x=y:=by
  rw [sgq_zero]
  constructor
  · intro h;grind
  · intro h;grind
theorem cmp_zero {x y:Int}:cmp x y=0↔x=y:=by
  unfold cmp;split
  · omega
  · split <;> omega
theorem qok_gcd {x:RQ} (h:canon x.1.1 x.1.2∧canon x.2.1 x.2.2∧0<raw x.2.1 x.2.2):cmp ((Nat.gcd (raw x.1.1 x.1.2).natAbs (raw x.2.1 x.2.2).natAbs:Nat):Int) 1=0↔qok x:=by
  rw [cmp_zero];exact ⟨fun e=>⟨h.1,h.2.1,h.2.2,by omega⟩,fun e=>by have:=e.2.2.2;omega⟩
theorem sgn_le {c d:Prop} {z:Int} (hc:c) (hd:d):z.sign≤0↔¬(c∧d∧0<z):=by
  rcases Int.lt_trichotomy z 0 with h|h|h
  · rw [Int.sign_eq_neg_one_of_neg h];exact ⟨fun _ k=>by omega,fun _=>by decide⟩
  · rw [h];exact ⟨fun _ k=>by omega,fun _=>by decide⟩
  · rw [Int.sign_eq_one_of_pos h];exact ⟨fun k=>by omega,fun k=>absurd ⟨hc,hd,h⟩ k⟩
theorem raw_parts {x:RQ} (h1:nn x.1.2) (h2:nn x.2.2) (h:qok x):decide ((qv x).num<0)=x.1.1∧digs (qv x).num.natAbs=x.1.2∧decide (((qv x).den:Int)<0)=x.2.1∧digs (((qv x).den:Nat):Int).natAbs=x.2.2:=by
  obtain ⟨e1,e2⟩:=qv_parts h
  have d1:=raw_digs (s:=x.1.1) h1;have d2:=raw_digs (s:=x.2.1) h2
  rw [if_pos h.1] at d1;rw [if_pos h.2.1] at d2
  rw [e1,e2]
  exact ⟨raw_sign h1 h.1,d1,raw_sign h2 h.2.1,d2⟩
theorem zad {n d:Int} (hd:d≠0):ln (Nat.gcd n.natAbs d.natAbs:Nat)≤ln d:=by
  refine ztd ?_
  rw [Int.natAbs_natCast];exact Nat.gcd_le_right _ (by omega)
theorem divInt_nil {n d:Int} (hd:d=0):Rat.divInt n d=0:=by rw [hd,Rat.divInt_zero]
theorem sign_zero {z:Int}:z.sign=0↔z=0:=Int.sign_eq_zero_iff_zero
theorem qok_sub {x:RQ} (h:canon x.1.1 x.1.2∧canon x.2.1 x.2.2∧0<raw x.2.1 x.2.2):(((Nat.gcd (raw x.1.1 x.1.2).natAbs (raw x.2.1 x.2.2).natAbs:Nat):Int) - 1).sign=0↔qok x:=by
  rw [← cmp_sub];exact qok_gcd h
end Go.Proofs.Ytefbbhiaalcjfaa.Big
namespace Go.Proofs.Ytefbbhiaalcjfaa.Sp
open Go
set_option linter.unusedVariables false
def Wd.raw (g:Hp) (w:Wd) (x:Bool×List Int):Prop:=w.s=x.1∧w.n=x.2.length∧x.2.length≤1048576∧Sl (rI .u32) g w.p w.c x.2
theorem Wd.raw_mono {g g':Hp} {w:Wd} {x:Bool×List Int} (h:g.le g') (k:w.raw g x):w.raw g' x:=⟨k.1,k.2.1,k.2.2.1,k.2.2.2.mono h⟩
def qF (c:Bool) (u v:Wd) (q:Rat):Fa:=⟨fun g=>∃x:Big.RQ,u.raw g x.1∧v.raw g x.2∧Big.qv x=q∧(c=true→Big.qok x),fun _ _ h ⟨x,a,b,d⟩=>⟨x,Wd.raw_mono h a,Wd.raw_mono h b,d⟩⟩
theorem Sl.nn {g:Hp} {p:Option Addr} {c:Nat} {l:List Int} (h:Sl (rI .u32) g p c l):Big.nn l:=fun d hd=>by
  obtain ⟨j,hj⟩:=List.getElem?_of_mem hd
  obtain ⟨_,_,_,_,_,e⟩:=h.2.2.2 j d hj
  exact (zw.1 e).1
theorem Wd.raw_is {g:Hp} {w:Wd} {x:Bool×List Int} (h:w.raw g x) (hc:Big.canon x.1 x.2):w.is g (Big.raw x.1 x.2):=by
  have hn:=h.2.2.2.nn
  have hd:=Big.raw_digs (s:=x.1) hn
  rw [if_pos hc] at hd
  exact ⟨h.1.trans (Big.raw_sign hn hc).symm,by rw [hd];exact h.2.1,by rw [hd];exact h.2.2.2⟩
theorem Wd.is_raw {g:Hp} {w:Wd} {z:Int} (h:w.is g z) (hl:Big.ln z≤1048576):w.raw g (decide (z<0),Big.digs z.natAbs):=⟨h.1,h.2.1,hl,h.2.2⟩
section
variable {P : Program} {c : Cx} {n : Sz} {Q : Exit → Act → World → Prop} {m : Fm} {O : List As} {R : List Fa} {f : Nat} {u v : Wd} {q : Rat}
theorem qF_parts {g:Hp} (h:(qF true u v q).on g):u.is g q.num∧v.is g (q.den:Int):=by
  obtain ⟨x,a,b,e,ok⟩:=h
  have hk:=ok rfl
  obtain ⟨e1,e2⟩:=Big.qv_parts hk
  rw [← e,e1,e2]
  exact ⟨Wd.raw_is a hk.1,Wd.raw_is b hk.2.1⟩
theorem qF_open (i:Nat) (hi:R[i]? =some (qF true u v q)):∀g,Holds g R→∃x:Unit,True∧Holds g [zF u q.num,zF v (q.den:Int)]:=fun g h=>
  ⟨(),trivial,(qF_parts (Holds.get i hi h)).1,(qF_parts (Holds.get i hi h)).2,trivial⟩
theorem qF_make {g:Hp} (h1:u.is g q.num) (h2:v.is g (q.den:Int)) (hl:Big.hq q≤1048576):(qF true u v q).on g:=
  ⟨Big.rq q,Wd.is_raw h1 (Nat.le_trans (Big.hq_num q) hl),Wd.is_raw h2 (Nat.le_trans (Big.hq_den q) hl),Big.rq_v q,fun _=>Big.rq_ok q⟩
theorem qF_close (i j:Nat) {a b:Int} (hi:R[i]? =some (zF u a)) (hj:R[j]? =some (zF v b)) (h:a=q.num∧b=(q.den:Int)∧Big.hq q≤1048576):∀g,Holds g R→(qF true u v q).on g:=fun g r=>by
  have h1:u.is g a:=Holds.get i hi r
  have h2:v.is g b:=Holds.get j hj r
  rw [h.1] at h1;rw [h.2.1] at h2
  exact qF_make h1 h2 h.2.2
theorem qF_len {g:Hp} {k:Bool} (h:(qF k u v q).on g):Big.hq q≤1048576:=by
  obtain ⟨x,a,b,e,ok⟩:=h
  by_cases hk:Big.qok x
  · obtain ⟨e1, e2⟩ := Big.qv_parts hk
    rw [← e]
    unfold Big.hq Big.ln
    rw [e1,e2]
    have h1:=Big.raw_digs (s:=x.1.1) a.2.2.2.nn
    have h2:=Big.raw_digs (s:=x.2.1) b.2.2.2.nn
    rw [if_pos hk.1] at h1;rw [if_pos hk.2.1] at h2
    rw [h1,h2]
    have:=a.2.2.1;have:=b.2.2.1;omega
  · rw [Big.qv_not hk] at e
    rw [← e,Big.hq_zero];omega
theorem qF_none (g:Hp):(qF false wz wz 0).on g:=⟨((false,[]),(false,[])),⟨rfl,rfl,by decide,Sl.nil _ _⟩,⟨rfl,rfl,by decide,Sl.nil _ _⟩,by decide +kernel,fun h=>by cases h⟩
abbrev rawL (p:Option Addr) (c:Nat) (x:Bool×List Int):List Value:=[.bool x.1,.slice p x.2.length c]
theorem Wd.rawL_eq {g:Hp} {w:Wd} {x:Bool×List Int} (h:w.raw g x):[w.b,w.l]=rawL w.p w.c x:=by rw [Wd.b,Wd.l,h.1,h.2.1]
theorem zsf {k:Bool} {Y:Type} {φ:Y→Prop} {val:Y→Value} {O':Y→List As} {R':Y→List Fa}
    (h:∀(x:Big.RQ),Big.qv x=q→(k=true→Big.qok x)→x.1.2.length≤1048576→x.2.2.length≤1048576→Con P f [.agg #[.bool x.1.1,.slice u.p x.1.2.length u.c,.bool x.2.1,.slice v.p x.2.2.length v.c]] O [slF (rI .u32) u.p u.c x.1.2,slF (rI .u32) v.p v.c x.2.2] φ val O' R'):
    Con P f [.agg #[u.b,u.l,v.b,v.l]] O [qF k u v q] φ val O' R':=
  Con.of (X:=Big.RQ) (ψ:=fun x=>Big.qv x=q∧(k=true→Big.qok x)∧x.1.2.length≤1048576∧x.2.2.length≤1048576) (A2:=fun x=>[.agg #[.bool x.1.1,.slice u.p x.1.2.length u.c,.bool x.2.1,.slice v.p x.2.2.length v.c]]) (R2:=fun x=>[slF (rI .u32) u.p u.c x.1.2,slF (rI .u32) v.p v.c x.2.2])
    (fun x hx=>h x hx.1 hx.2.1 hx.2.2.1 hx.2.2.2) fun g r=>by
      obtain ⟨x,a,b,e,ok⟩:=r.1
      refine ⟨x,⟨e,ok,a.2.2.1,b.2.2.1⟩,?_,a.2.2.2,b.2.2.2,trivial⟩
      have h1:=Wd.rawL_eq a;have h2:=Wd.rawL_eq b
      simp only [rawL,List.cons.injEq,and_true] at h1 h2
      rw [h1.1,h1.2,h2.1,h2.2]
theorem zBf {k:Bool} {Y:Type} {φ:Y→Prop} {val:Y→Value} {O':Y→List As} {R':Y→List Fa}
    (h:∀(x:Big.RQ),Big.qv x=q→(k=true→Big.qok x)→x.1.2.length≤1048576→x.2.2.length≤1048576→Big.hq q≤1048576→Con P f [.agg #[.bool x.1.1,.slice u.p x.1.2.length u.c,.bool x.2.1,.slice v.p x.2.2.length v.c]] O [slF (rI .u32) u.p u.c x.1.2,slF (rI .u32) v.p v.c x.2.2] φ val O' R'):
    Con P f [.agg #[u.b,u.l,v.b,v.l]] O [qF k u v q] φ val O' R':=fun w hh g s r ap h1 h2=>
  zsf (fun x a b c d=>h x a b c d (qF_len r.1)) w hh g s r ap h1 h2
theorem zAe {A:List Value} {z d:Int} {k:Value} (h:Con P f A O R (Y:=Option Addr×Nat×Option Addr×Nat) (fun _=>True) (fun y=> .tuple #[.agg #[.bool (decide (z<0)),.slice y.1 (Big.digs z.natAbs).length y.2.1],.agg #[.bool (decide (d<0)),.slice y.2.2.1 (Big.digs d.natAbs).length y.2.2.2],k]) (fun _=>[]) (fun y=>[bigS z y.1 y.2.1,bigS d y.2.2.1 y.2.2.2])):
    Con P f A O R (Y:=Wd×Wd) (fun _=>True) (fun w=> .tuple #[.agg #[w.1.b,w.1.l],.agg #[w.2.b,w.2.l],k]) (fun _=>[]) (fun w=>[zF w.1 z,zF w.2 d]):=
  h.told (fun y=>(⟨decide (z<0),y.1,(Big.digs z.natAbs).length,y.2.1⟩,⟨decide (d<0),y.2.2.1,(Big.digs d.natAbs).length,y.2.2.2⟩)) (fun _=>rfl) (fun _ _=>trivial) (fun _=>rfl)
    (fun y _ g r=>⟨⟨rfl,rfl,r.1⟩,⟨rfl,rfl,r.2.1⟩,trivial⟩)
theorem qF_rawI {s t:Bool} {p1 p2:Option Addr} {n1 c1 n2 c2:Nat} {l1 l2:List Int} (i j:Nat) (hi:R[i]? =some (slF (rI .u32) p1 c1 l1)) (hj:R[j]? =some (slF (rI .u32) p2 c2 l2)) (hn1:l1.length=n1) (hn2:l2.length=n2) (hm1:n1≤1048576) (hm2:n2≤1048576) (hq:Big.qok ((s,l1),(t,l2))):
    ∀g,Holds g R→(qF true ⟨s,p1,n1,c1⟩ ⟨t,p2,n2,c2⟩ (Big.qv ((s,l1),(t,l2)))).on g:=fun g r=>by
  subst hn1;subst hn2
  exact ⟨((s,l1),(t,l2)),⟨rfl,rfl,hm1,Holds.get i hi r⟩,⟨rfl,rfl,hm2,Holds.get j hj r⟩,rfl,fun _=>hq⟩
end
section
variable {P : Program} {c : Cx} {m : Fm} {O : List As} {R : List Fa}
theorem ztf {Y:Type} {n:Nat} {fn:Func} {φ:Y→Prop} {val:Y→Value} {O1:Y→List As} {R1:Y→List Fa} {r1 r2 r3 r4:ResultVar} {v1 v2 v3 v4:Value} (hr:fn.results= #[r1,r2,r3,r4]) (y:Y) (hy:φ y)
    (h1:ResAt P ⟨n,[]⟩ m O R r1 v1) (h2:ResAt P ⟨n,[]⟩ m O R r2 v2) (h3:ResAt P ⟨n,[]⟩ m O R r3 v3) (h4:ResAt P ⟨n,[]⟩ m O R r4 v4) (hv:val y= .tuple #[v1,v2,v3,v4]) {is js:List Nat} (ho:pickO is O=some (O1 y)) (hs:SelR js R (R1 y)):Post c ⟨n,[]⟩ (Ret P fn c φ val O1 R1) .ret m O R:=by
  intro a w f mm
  refine ⟨f.defers,.tuple #[v1,v2,v3,v4],?_,y,by rw [hv],hy,mm.sel ho hs⟩
  have e1:=h1 c a w f mm
  have e2:=h2 c a w f mm
  have e3:=h3 c a w f mm
  have e4:=h4 c a w f mm
  simp [results_eq,hr,e1,e2,e3,e4]
end
section
variable {P : Program} {n : Sz} {m : Fm} {d : Option Tmp} {ty : TypeId} {ps : String} {af : Array Edge} {gd : Option (Nat × Bool)}
theorem zCf {x y z:Operand} {ats:Array TypeId} {k:IntKind} {a b e:Int} (h1:evo m x=some (.int k a)) (h2:evo m y=some (.int k b)) (h3:evo m z=some (.int k e)):PV P n ⟨d,.call ⟨.builtin .min,#[x,y,z],ats⟩,ty,ps,af,gd⟩ m (.int k (min (min a b) e)):=fun ac w f=>by
  have t1:(if b<a then b else a)=min a b:=by by_cases h:b<a <;> simp [h,Int.min_def] <;> omega
  have t0:∀q:Int,(if e<q then e else q)=min q e:=fun q=>by by_cases h:e<q <;> simp [h,Int.min_def] <;> omega
  have t2:=t0 (min a b)
  simp [execOp,resolve,invoke,builtin,Builtin.min_,Builtin.min2,f.ev h1,f.ev h2,f.ev h3,t1,t2]
end
end Go.Proofs.Ytefbbhiaalcjfaa.Sp
namespace Go.Proofs.Ytefbbhiaalcjfaa.Bl
def ok (ar l t r b sx sy xx xy yy ms mx my:Int):Prop:=
  (1≤ar∧ar≤4096)∧(0≤l∧l≤r)∧r≤63∧(0≤t∧t≤b)∧b≤63∧(ar*l≤sx∧sx≤ar*r)∧(ar*t≤sy∧sy≤ar*b)∧
  (0≤xx∧xx≤ar*63*63)∧(0≤xy∧xy≤ar*63*63)∧(0≤yy∧yy≤ar*63*63)∧(0≤ms∧ms≤ar*65535)∧(ms*l≤mx∧mx≤ms*r)∧(ms*t≤my∧my≤ms*b)
instance (ar l t r b sx sy xx xy yy ms mx my:Int):Decidable (ok ar l t r b sx sy xx xy yy ms mx my):=inferInstanceAs (Decidable (_∧_))
theorem mul_b {x y m n:Int} (hx:0≤x∧x≤m) (hy:0≤y∧y≤n):0≤x*y∧x*y≤m*n:=
  ⟨Int.mul_nonneg hx.1 hy.1,Int.mul_le_mul hx.2 hy.2 hy.1 (Int.le_trans hx.1 hx.2)⟩
def bd (ar l t r b sx sy xx xy yy ms mx my:Int):Prop:=
  (0≤ar∧ar≤1000000000000)∧(0≤sx∧sx≤1000000000000)∧(0≤sy∧sy≤1000000000000)∧(0≤xx∧xx≤1000000000000)∧(0≤xy∧xy≤1000000000000)∧(0≤yy∧yy≤1000000000000)∧(0≤ms∧ms≤1000000000000)∧(0≤mx∧mx≤1000000000000)∧(0≤my∧my≤1000000000000)
theorem ok_bd {ar l t r b sx sy xx xy yy ms mx my:Int} (h:ok ar l t r b sx sy xx xy yy ms mx my):bd ar l t r b sx sy xx xy yy ms mx my:=by
  unfold ok at h
  have a1:=mul_b (x:=ar) (y:=l) (m:=4096) (n:=63) (by omega) (by omega)
  have a2:=mul_b (x:=ar) (y:=r) (m:=4096) (n:=63) (by omega) (by omega)
  have a3:=mul_b (x:=ar) (y:=t) (m:=4096) (n:=63) (by omega) (by omega)
  have a4:=mul_b (x:=ar) (y:=b) (m:=4096) (n:=63) (by omega) (by omega)
  have b1:=mul_b (x:=ms) (y:=l) (m:=268431360) (n:=63) (by omega) (by omega)
  have b2:=mul_b (x:=ms) (y:=r) (m:=268431360) (n:=63) (by omega) (by omega)
  have b3:=mul_b (x:=ms) (y:=t) (m:=268431360) (n:=63) (by omega) (by omega)
  have b4:=mul_b (x:=ms) (y:=b) (m:=268431360) (n:=63) (by omega) (by omega)
  unfold bd;omega
theorem c0 {p:Prop} [Decidable p]:(if p then (0:Int) else 1)=0↔p:=by split <;> simp_all
def rok (w h m:Int) (l:List Int):Prop:=(1≤w∧w≤64)∧(1≤h∧h≤64)∧(1≤m∧m≤65535)∧(l.length:Int)=w*h∧¬∃x∈l,x<0∨m<x
instance (w h m:Int) (l:List Int):Decidable (rok w h m l):=inferInstanceAs (Decidable (_∧_))
end Go.Proofs.Ytefbbhiaalcjfaa.Bl
namespace Go.Proofs.Ytefbbhiaalcjfaa.Sp
open Go
set_option linter.unusedVariables false
set_option maxRecDepth 100000
set_option maxHeartbeats 1000000
theorem zDa {n:Int} {lo:Int} {hi:Int}:Con Try.prog 50 [.int .i64 n,.int .i64 lo,.int .i64 hi] [] [] (Y:=Unit) (fun y=>True) (fun y=> .bool (decide (lo≤n∧n≤hi))) (fun y=>[]) (fun y=>[]):=by
 refine zr Try.func50 rfl rfl rfl (fun c=> ?_)
 show RunC _ _ _ _ _ [(0,.int .i64 n),(1,.int .i64 lo),(2,.int .i64 hi)] [] []
 refine zi<|zc<|r_pv rfl rfl (zd rfl)<|zj<|zf<|zRa (X:=Unit) (fun x=>True) (fun x=>[(6,.bool (decide ((lo≤n)∧(n≤hi))))]) (fun x=>[]) (fun x=>[]) ?_ ?_
 ·
  refine zc<|r_pv rfl rfl (zb rfl)<|r_pv rfl rfl (zb rfl)<|r_pv rfl rfl (zGa rfl rfl)<|zR rfl rfl (zb rfl) (fun h1=> ?_) (fun h1=> ?_)
  ·
   refine r_pv rfl rfl (zb rfl)<|r_pv rfl rfl (zb rfl)<|r_pv rfl rfl (zxc rfl rfl)<|r_pv rfl rfl (zl rfl rfl)<|r_pv rfl rfl (zd rfl)<|zj ?_
   exact zca () (show True from by first|trivial|omega|simp_all) ((.e rfl (congrArg Value.bool (by first|(simp_all;done)|(simp_all;omega)|(simp;omega)|omega)) .n):SubM _ _) (ho:=(.n:PickO _ _ _)) (.n:SelR _ _ _)
  ·
   refine za rfl rfl<|za rfl rfl<|za rfl rfl<|r_pv rfl rfl (zl rfl rfl)<|r_pv rfl rfl (zd rfl)<|zj ?_
   exact zca () (show True from by first|trivial|omega|simp_all) ((.e rfl (congrArg Value.bool (by first|(simp_all;done)|(simp_all;omega)|(simp;omega)|omega)) .n):SubM _ _) (ho:=(.n:PickO _ _ _)) (.n:SelR _ _ _)
 ·
  rintro ⟨⟩ -
  try dsimp only
  refine zI ?_
  exact zD Try.results50 () trivial (zq rfl) (congrArg Value.bool (decide_eq_decide.2 (by constructor <;> intro h <;> omega))) (ho:=(.n:PickO _ _ _)) (.n:SelR _ _ _)
end Go.Proofs.Ytefbbhiaalcjfaa.Sp
namespace Go.Proofs.Ytefbbhiaalcjfaa.Sp
open Go
set_option linter.unusedVariables false
set_option maxRecDepth 100000
set_option maxHeartbeats 1000000
theorem zxb {ar:Int} {le:Int} {tp:Int} {rt:Int} {bt:Int} {sx:Int} {sy:Int} {xx:Int} {xy:Int} {yy:Int} {ms:Int} {mx:Int} {my:Int}:Con Try.prog 28 [.agg #[.int .i64 ar,.int .i64 le,.int .i64 tp,.int .i64 rt,.int .i64 bt,.int .i64 sx,.int .i64 sy,.int .i64 xx,.int .i64 xy,.int .i64 yy,.int .i64 ms,.int .i64 mx,.int .i64 my]] [] [] (Y:=Unit) (fun y=>True) (fun y=> .int .i64 (if Bl.ok ar le tp rt bt sx sy xx xy yy ms mx my then 0 else 1)) (fun y=>[]) (fun y=>[]):=by
 refine zr Try.func28 rfl rfl rfl (fun c=> ?_)
 show RunC _ _ _ _ _ [(0,.agg #[.int .i64 ar,.int .i64 le,.int .i64 tp,.int .i64 rt,.int .i64 bt,.int .i64 sx,.int .i64 sy,.int .i64 xx,.int .i64 xy,.int .i64 yy,.int .i64 ms,.int .i64 mx,.int .i64 my])] [] []
 refine zi<|zc<|zQ rfl rfl (zV rfl rfl) (fun b1=> ?_)
 refine r_pv rfl rfl (zd rfl)<|zj<|zf<|zi<|zc<|r_pv rfl rfl (zd rfl)<|zj<|zf<|zRa (X:=Unit) (fun x=>True) (fun x=>[(4,.bool (decide (((((((((((((1≤ar∧ar≤4096)∧(0≤le∧le≤rt))∧(rt≤63))∧(0≤tp∧tp≤bt))∧(bt≤63))∧((ar*le)≤sx∧sx≤(ar*rt)))∧((ar*tp)≤sy∧sy≤(ar*bt)))∧(0≤xx∧xx≤((ar*63)*63)))∧(0≤xy∧xy≤((ar*63)*63)))∧(0≤yy∧yy≤((ar*63)*63)))∧(0≤ms∧ms≤(ar*65535)))∧((ms*le)≤mx∧mx≤(ms*rt)))∧((ms*tp)≤my∧my≤(ms*bt))))),(2,.int .i64 0)]) (fun x=>[boxA b1 51 [.int .i64 ar,.int .i64 le,.int .i64 tp,.int .i64 rt,.int .i64 bt,.int .i64 sx,.int .i64 sy,.int .i64 xx,.int .i64 xy,.int .i64 yy,.int .i64 ms,.int .i64 mx,.int .i64 my]]) (fun x=>[]) ?_ ?_
 ·
  refine zc<|r_pv rfl rfl (zg Try.underlying51 rfl sz3 rfl rfl)<|r_u rfl rfl (ze 0 ty3 rfl rfl rfl)<|zM rfl rfl (.c rfl (.c rfl (.c rfl .n))) ce50 (zDa (n:=ar) (lo:=1) (hi:=4096)) (.n)<|zR rfl rfl (zb rfl) (fun h2=> ?_) (fun h2=> ?_)
  ·
   refine r_pv rfl rfl (zg Try.underlying51 rfl sz3 rfl rfl)<|r_u rfl rfl (ze 0 ty3 rfl rfl rfl)<|r_pv rfl rfl (zg Try.underlying51 rfl sz3 rfl rfl)<|r_u rfl rfl (ze 0 ty3 rfl rfl rfl)<|zM rfl rfl (.c rfl (.c rfl (.c rfl .n))) ce50 (zDa (n:=le) (lo:=0) (hi:=rt)) (.n)<|r_pv rfl rfl (zl rfl rfl)<|zR rfl rfl (zb rfl) (fun h3=> ?_) (fun h3=> ?_)
   ·
    refine r_pv rfl rfl (zg Try.underlying51 rfl sz3 rfl rfl)<|r_u rfl rfl (ze 0 ty3 rfl rfl rfl)<|r_pv rfl rfl (zb rfl)<|r_pv rfl rfl (zxc rfl rfl)<|r_pv rfl rfl (zl rfl rfl)<|zR rfl rfl (zb rfl) (fun h4=> ?_) (fun h4=> ?_)
    ·
     refine r_pv rfl rfl (zg Try.underlying51 rfl sz3 rfl rfl)<|r_u rfl rfl (ze 0 ty3 rfl rfl rfl)<|r_pv rfl rfl (zg Try.underlying51 rfl sz3 rfl rfl)<|r_u rfl rfl (ze 0 ty3 rfl rfl rfl)<|zM rfl rfl (.c rfl (.c rfl (.c rfl .n))) ce50 (zDa (n:=tp) (lo:=0) (hi:=bt)) (.n)<|r_pv rfl rfl (zl rfl rfl)<|zR rfl rfl (zb rfl) (fun h5=> ?_) (fun h5=> ?_)
     ·
      refine r_pv rfl rfl (zg Try.underlying51 rfl sz3 rfl rfl)<|r_u rfl rfl (ze 0 ty3 rfl rfl rfl)<|r_pv rfl rfl (zb rfl)<|r_pv rfl rfl (zxc rfl rfl)<|r_pv rfl rfl (zl rfl rfl)<|zR rfl rfl (zb rfl) (fun h6=> ?_) (fun h6=> ?_)
      ·
       refine r_pv rfl rfl (zg Try.underlying51 rfl sz3 rfl rfl)<|r_u rfl rfl (ze 0 ty3 rfl rfl rfl)<|r_pv rfl rfl (zg Try.underlying51 rfl sz3 rfl rfl)<|r_u rfl rfl (ze 0 ty3 rfl rfl rfl)<|r_pv rfl rfl (zg Try.underlying51 rfl sz3 rfl rfl)<|r_u rfl rfl (ze 0 ty3 rfl rfl rfl)<|r_pv rfl rfl (zga (z:=(ar*le)) rfl rfl (w64 (by first|omega|(have:=Bl.mul_b (x:=ar) (y:=le) (m:=4096) (n:=63) (by omega) (by omega);omega)|(have:=Bl.mul_b (x:=ar) (y:=rt) (m:=4096) (n:=63) (by omega) (by omega);omega)|(have:=Bl.mul_b (x:=ar) (y:=tp) (m:=4096) (n:=63) (by omega) (by omega);omega)|(have:=Bl.mul_b (x:=ar) (y:=bt) (m:=4096) (n:=63) (by omega) (by omega);omega)|(have:=Bl.mul_b (x:=ms) (y:=le) (m:=268431360) (n:=63) (by omega) (by omega);omega)|(have:=Bl.mul_b (x:=ms) (y:=rt) (m:=268431360) (n:=63) (by omega) (by omega);omega)|(have:=Bl.mul_b (x:=ms) (y:=tp) (m:=268431360) (n:=63) (by omega) (by omega);omega)|(have:=Bl.mul_b (x:=ms) (y:=bt) (m:=268431360) (n:=63) (by omega) (by omega);omega))))<|r_pv rfl rfl (zg Try.underlying51 rfl sz3 rfl rfl)<|r_u rfl rfl (ze 0 ty3 rfl rfl rfl)<|r_pv rfl rfl (zg Try.underlying51 rfl sz3 rfl rfl)<|r_u rfl rfl (ze 0 ty3 rfl rfl rfl)<|r_pv rfl rfl (zga (z:=(ar*rt)) rfl rfl (w64 (by first|omega|(have:=Bl.mul_b (x:=ar) (y:=le) (m:=4096) (n:=63) (by omega) (by omega);omega)|(have:=Bl.mul_b (x:=ar) (y:=rt) (m:=4096) (n:=63) (by omega) (by omega);omega)|(have:=Bl.mul_b (x:=ar) (y:=tp) (m:=4096) (n:=63) (by omega) (by omega);omega)|(have:=Bl.mul_b (x:=ar) (y:=bt) (m:=4096) (n:=63) (by omega) (by omega);omega)|(have:=Bl.mul_b (x:=ms) (y:=le) (m:=268431360) (n:=63) (by omega) (by omega);omega)|(have:=Bl.mul_b (x:=ms) (y:=rt) (m:=268431360) (n:=63) (by omega) (by omega);omega)|(have:=Bl.mul_b (x:=ms) (y:=tp) (m:=268431360) (n:=63) (by omega) (by omega);omega)|(have:=Bl.mul_b (x:=ms) (y:=bt) (m:=268431360) (n:=63) (by omega) (by omega);omega))))<|zM rfl rfl (.c rfl (.c rfl (.c rfl .n))) ce50 (zDa (n:=sx) (lo:=(ar*le)) (hi:=(ar*rt))) (.n)<|r_pv rfl rfl (zl rfl rfl)<|zR rfl rfl (zb rfl) (fun h7=> ?_) (fun h7=> ?_)
       ·
        refine r_pv rfl rfl (zg Try.underlying51 rfl sz3 rfl rfl)<|r_u rfl rfl (ze 0 ty3 rfl rfl rfl)<|r_pv rfl rfl (zg Try.underlying51 rfl sz3 rfl rfl)<|r_u rfl rfl (ze 0 ty3 rfl rfl rfl)<|r_pv rfl rfl (zg Try.underlying51 rfl sz3 rfl rfl)<|r_u rfl rfl (ze 0 ty3 rfl rfl rfl)<|r_pv rfl rfl (zga (z:=(ar*tp)) rfl rfl (w64 (by first|omega|(have:=Bl.mul_b (x:=ar) (y:=le) (m:=4096) (n:=63) (by omega) (by omega);omega)|(have:=Bl.mul_b (x:=ar) (y:=rt) (m:=4096) (n:=63) (by omega) (by omega);omega)|(have:=Bl.mul_b (x:=ar) (y:=tp) (m:=4096) (n:=63) (by omega) (by omega);omega)|(have:=Bl.mul_b (x:=ar) (y:=bt) (m:=4096) (n:=63) (by omega) (by omega);omega)|(have:=Bl.mul_b (x:=ms) (y:=le) (m:=268431360) (n:=63) (by omega) (by omega);omega)|(have:=Bl.mul_b (x:=ms) (y:=rt) (m:=268431360) (n:=63) (by omega) (by omega);omega)|(have:=Bl.mul_b (x:=ms) (y:=tp) (m:=268431360) (n:=63) (by omega) (by omega);omega)|(have:=Bl.mul_b (x:=ms) (y:=bt) (m:=268431360) (n:=63) (by omega) (by omega);omega))))<|r_pv rfl rfl (zg Try.underlying51 rfl sz3 rfl rfl)<|r_u rfl rfl (ze 0 ty3 rfl rfl rfl)<|r_pv rfl rfl (zg Try.underlying51 rfl sz3 rfl rfl)<|r_u rfl rfl (ze 0 ty3 rfl rfl rfl)<|r_pv rfl rfl (zga (z:=(ar*bt)) rfl rfl (w64 (by first|omega|(have:=Bl.mul_b (x:=ar) (y:=le) (m:=4096) (n:=63) (by omega) (by omega);omega)|(have:=Bl.mul_b (x:=ar) (y:=rt) (m:=4096) (n:=63) (by omega) (by omega);omega)|(have:=Bl.mul_b (x:=ar) (y:=tp) (m:=4096) (n:=63) (by omega) (by omega);omega)|(have:=Bl.mul_b (x:=ar) (y:=bt) (m:=4096) (n:=63) (by omega) (by omega);omega)|(have:=Bl.mul_b (x:=ms) (y:=le) (m:=268431360) (n:=63) (by omega) (by omega);omega)|(have:=Bl.mul_b (x:=ms) (y:=rt) (m:=268431360) (n:=63) (by omega) (by omega);omega)|(have:=Bl.mul_b (x:=ms) (y:=tp) (m:=268431360) (n:=63) (by omega) (by omega);omega)|(have:=Bl.mul_b (x:=ms) (y:=bt) (m:=268431360) (n:=63) (by omega) (by omega);omega))))<|zM rfl rfl (.c rfl (.c rfl (.c rfl .n))) ce50 (zDa (n:=sy) (lo:=(ar*tp)) (hi:=(ar*bt))) (.n)<|r_pv rfl rfl (zl rfl rfl)<|zR rfl rfl (zb rfl) (fun h8=> ?_) (fun h8=> ?_)
        ·
         refine r_pv rfl rfl (zg Try.underlying51 rfl sz3 rfl rfl)<|r_u rfl rfl (ze 0 ty3 rfl rfl rfl)<|r_pv rfl rfl (zg Try.underlying51 rfl sz3 rfl rfl)<|r_u rfl rfl (ze 0 ty3 rfl rfl rfl)<|r_pv rfl rfl (zb rfl)<|r_pv rfl rfl (zga (z:=(ar*63)) rfl rfl (w64 (by first|omega|(have:=Bl.mul_b (x:=ar) (y:=le) (m:=4096) (n:=63) (by omega) (by omega);omega)|(have:=Bl.mul_b (x:=ar) (y:=rt) (m:=4096) (n:=63) (by omega) (by omega);omega)|(have:=Bl.mul_b (x:=ar) (y:=tp) (m:=4096) (n:=63) (by omega) (by omega);omega)|(have:=Bl.mul_b (x:=ar) (y:=bt) (m:=4096) (n:=63) (by omega) (by omega);omega)|(have:=Bl.mul_b (x:=ms) (y:=le) (m:=268431360) (n:=63) (by omega) (by omega);omega)|(have:=Bl.mul_b (x:=ms) (y:=rt) (m:=268431360) (n:=63) (by omega) (by omega);omega)|(have:=Bl.mul_b (x:=ms) (y:=tp) (m:=268431360) (n:=63) (by omega) (by omega);omega)|(have:=Bl.mul_b (x:=ms) (y:=bt) (m:=268431360) (n:=63) (by omega) (by omega);omega))))<|r_pv rfl rfl (zb rfl)<|r_pv rfl rfl (zga (z:=((ar*63)*63)) rfl rfl (w64 (by first|omega|(have:=Bl.mul_b (x:=ar) (y:=le) (m:=4096) (n:=63) (by omega) (by omega);omega)|(have:=Bl.mul_b (x:=ar) (y:=rt) (m:=4096) (n:=63) (by omega) (by omega);omega)|(have:=Bl.mul_b (x:=ar) (y:=tp) (m:=4096) (n:=63) (by omega) (by omega);omega)|(have:=Bl.mul_b (x:=ar) (y:=bt) (m:=4096) (n:=63) (by omega) (by omega);omega)|(have:=Bl.mul_b (x:=ms) (y:=le) (m:=268431360) (n:=63) (by omega) (by omega);omega)|(have:=Bl.mul_b (x:=ms) (y:=rt) (m:=268431360) (n:=63) (by omega) (by omega);omega)|(have:=Bl.mul_b (x:=ms) (y:=tp) (m:=268431360) (n:=63) (by omega) (by omega);omega)|(have:=Bl.mul_b (x:=ms) (y:=bt) (m:=268431360) (n:=63) (by omega) (by omega);omega))))<|zM rfl rfl (.c rfl (.c rfl (.c rfl .n))) ce50 (zDa (n:=xx) (lo:=0) (hi:=((ar*63)*63))) (.n)<|r_pv rfl rfl (zl rfl rfl)<|zR rfl rfl (zb rfl) (fun h9=> ?_) (fun h9=> ?_)
         ·
          refine r_pv rfl rfl (zg Try.underlying51 rfl sz3 rfl rfl)<|r_u rfl rfl (ze 0 ty3 rfl rfl rfl)<|r_pv rfl rfl (zg Try.underlying51 rfl sz3 rfl rfl)<|r_u rfl rfl (ze 0 ty3 rfl rfl rfl)<|r_pv rfl rfl (zb rfl)<|r_pv rfl rfl (zga (z:=(ar*63)) rfl rfl (w64 (by first|omega|(have:=Bl.mul_b (x:=ar) (y:=le) (m:=4096) (n:=63) (by omega) (by omega);omega)|(have:=Bl.mul_b (x:=ar) (y:=rt) (m:=4096) (n:=63) (by omega) (by omega);omega)|(have:=Bl.mul_b (x:=ar) (y:=tp) (m:=4096) (n:=63) (by omega) (by omega);omega)|(have:=Bl.mul_b (x:=ar) (y:=bt) (m:=4096) (n:=63) (by omega) (by omega);omega)|(have:=Bl.mul_b (x:=ms) (y:=le) (m:=268431360) (n:=63) (by omega) (by omega);omega)|(have:=Bl.mul_b (x:=ms) (y:=rt) (m:=268431360) (n:=63) (by omega) (by omega);omega)|(have:=Bl.mul_b (x:=ms) (y:=tp) (m:=268431360) (n:=63) (by omega) (by omega);omega)|(have:=Bl.mul_b (x:=ms) (y:=bt) (m:=268431360) (n:=63) (by omega) (by omega);omega))))<|r_pv rfl rfl (zb rfl)<|r_pv rfl rfl (zga (z:=((ar*63)*63)) rfl rfl (w64 (by first|omega|(have:=Bl.mul_b (x:=ar) (y:=le) (m:=4096) (n:=63) (by omega) (by omega);omega)|(have:=Bl.mul_b (x:=ar) (y:=rt) (m:=4096) (n:=63) (by omega) (by omega);omega)|(have:=Bl.mul_b (x:=ar) (y:=tp) (m:=4096) (n:=63) (by omega) (by omega);omega)|(have:=Bl.mul_b (x:=ar) (y:=bt) (m:=4096) (n:=63) (by omega) (by omega);omega)|(have:=Bl.mul_b (x:=ms) (y:=le) (m:=268431360) (n:=63) (by omega) (by omega);omega)|(have:=Bl.mul_b (x:=ms) (y:=rt) (m:=268431360) (n:=63) (by omega) (by omega);omega)|(have:=Bl.mul_b (x:=ms) (y:=tp) (m:=268431360) (n:=63) (by omega) (by omega);omega)|(have:=Bl.mul_b (x:=ms) (y:=bt) (m:=268431360) (n:=63) (by omega) (by omega);omega))))<|zM rfl rfl (.c rfl (.c rfl (.c rfl .n))) ce50 (zDa (n:=xy) (lo:=0) (hi:=((ar*63)*63))) (.n)<|r_pv rfl rfl (zl rfl rfl)<|zR rfl rfl (zb rfl) (fun h10=> ?_) (fun h10=> ?_)
          ·
           refine r_pv rfl rfl (zg Try.underlying51 rfl sz3 rfl rfl)<|r_u rfl rfl (ze 0 ty3 rfl rfl rfl)<|r_pv rfl rfl (zg Try.underlying51 rfl sz3 rfl rfl)<|r_u rfl rfl (ze 0 ty3 rfl rfl rfl)<|r_pv rfl rfl (zb rfl)<|r_pv rfl rfl (zga (z:=(ar*63)) rfl rfl (w64 (by first|omega|(have:=Bl.mul_b (x:=ar) (y:=le) (m:=4096) (n:=63) (by omega) (by omega);omega)|(have:=Bl.mul_b (x:=ar) (y:=rt) (m:=4096) (n:=63) (by omega) (by omega);omega)|(have:=Bl.mul_b (x:=ar) (y:=tp) (m:=4096) (n:=63) (by omega) (by omega);omega)|(have:=Bl.mul_b (x:=ar) (y:=bt) (m:=4096) (n:=63) (by omega) (by omega);omega)|(have:=Bl.mul_b (x:=ms) (y:=le) (m:=268431360) (n:=63) (by omega) (by omega);omega)|(have:=Bl.mul_b (x:=ms) (y:=rt) (m:=268431360) (n:=63) (by omega) (by omega);omega)|(have:=Bl.mul_b (x:=ms) (y:=tp) (m:=268431360) (n:=63) (by omega) (by omega);omega)|(have:=Bl.mul_b (x:=ms) (y:=bt) (m:=268431360) (n:=63) (by omega) (by omega);omega))))<|r_pv rfl rfl (zb rfl)<|r_pv rfl rfl (zga (z:=((ar*63)*63)) rfl rfl (w64 (by first|omega|(have:=Bl.mul_b (x:=ar) (y:=le) (m:=4096) (n:=63) (by omega) (by omega);omega)|(have:=Bl.mul_b (x:=ar) (y:=rt) (m:=4096) (n:=63) (by omega) (by omega);omega)|(have:=Bl.mul_b (x:=ar) (y:=tp) (m:=4096) (n:=63) (by omega) (by omega);omega)|(have:=Bl.mul_b (x:=ar) (y:=bt) (m:=4096) (n:=63) (by omega) (by omega);omega)|(have:=Bl.mul_b (x:=ms) (y:=le) (m:=268431360) (n:=63) (by omega) (by omega);omega)|(have:=Bl.mul_b (x:=ms) (y:=rt) (m:=268431360) (n:=63) (by omega) (by omega);omega)|(have:=Bl.mul_b (x:=ms) (y:=tp) (m:=268431360) (n:=63) (by omega) (by omega);omega)|(have:=Bl.mul_b (x:=ms) (y:=bt) (m:=268431360) (n:=63) (by omega) (by omega);omega))))<|zM rfl rfl (.c rfl (.c rfl (.c rfl .n))) ce50 (zDa (n:=yy) (lo:=0) (hi:=((ar*63)*63))) (.n)<|r_pv rfl rfl (zl rfl rfl)<|zR rfl rfl (zb rfl) (fun h11=> ?_) (fun h11=> ?_)
           ·
            refine r_pv rfl rfl (zg Try.underlying51 rfl sz3 rfl rfl)<|r_u rfl rfl (ze 0 ty3 rfl rfl rfl)<|r_pv rfl rfl (zg Try.underlying51 rfl sz3 rfl rfl)<|r_u rfl rfl (ze 0 ty3 rfl rfl rfl)<|r_pv rfl rfl (zga (z:=(ar*65535)) rfl rfl (w64 (by first|omega|(have:=Bl.mul_b (x:=ar) (y:=le) (m:=4096) (n:=63) (by omega) (by omega);omega)|(have:=Bl.mul_b (x:=ar) (y:=rt) (m:=4096) (n:=63) (by omega) (by omega);omega)|(have:=Bl.mul_b (x:=ar) (y:=tp) (m:=4096) (n:=63) (by omega) (by omega);omega)|(have:=Bl.mul_b (x:=ar) (y:=bt) (m:=4096) (n:=63) (by omega) (by omega);omega)|(have:=Bl.mul_b (x:=ms) (y:=le) (m:=268431360) (n:=63) (by omega) (by omega);omega)|(have:=Bl.mul_b (x:=ms) (y:=rt) (m:=268431360) (n:=63) (by omega) (by omega);omega)|(have:=Bl.mul_b (x:=ms) (y:=tp) (m:=268431360) (n:=63) (by omega) (by omega);omega)|(have:=Bl.mul_b (x:=ms) (y:=bt) (m:=268431360) (n:=63) (by omega) (by omega);omega))))<|zM rfl rfl (.c rfl (.c rfl (.c rfl .n))) ce50 (zDa (n:=ms) (lo:=0) (hi:=(ar*65535))) (.n)<|r_pv rfl rfl (zl rfl rfl)<|zR rfl rfl (zb rfl) (fun h12=> ?_) (fun h12=> ?_)
            ·
             refine r_pv rfl rfl (zg Try.underlying51 rfl sz3 rfl rfl)<|r_u rfl rfl (ze 0 ty3 rfl rfl rfl)<|r_pv rfl rfl (zg Try.underlying51 rfl sz3 rfl rfl)<|r_u rfl rfl (ze 0 ty3 rfl rfl rfl)<|r_pv rfl rfl (zg Try.underlying51 rfl sz3 rfl rfl)<|r_u rfl rfl (ze 0 ty3 rfl rfl rfl)<|r_pv rfl rfl (zga (z:=(ms*le)) rfl rfl (w64 (by first|omega|(have:=Bl.mul_b (x:=ar) (y:=le) (m:=4096) (n:=63) (by omega) (by omega);omega)|(have:=Bl.mul_b (x:=ar) (y:=rt) (m:=4096) (n:=63) (by omega) (by omega);omega)|(have:=Bl.mul_b (x:=ar) (y:=tp) (m:=4096) (n:=63) (by omega) (by omega);omega)|(have:=Bl.mul_b (x:=ar) (y:=bt) (m:=4096) (n:=63) (by omega) (by omega);omega)|(have:=Bl.mul_b (x:=ms) (y:=le) (m:=268431360) (n:=63) (by omega) (by omega);omega)|(have:=Bl.mul_b (x:=ms) (y:=rt) (m:=268431360) (n:=63) (by omega) (by omega);omega)|(have:=Bl.mul_b (x:=ms) (y:=tp) (m:=268431360) (n:=63) (by omega) (by omega);omega)|(have:=Bl.mul_b (x:=ms) (y:=bt) (m:=268431360) (n:=63) (by omega) (by omega);omega))))<|r_pv rfl rfl (zg Try.underlying51 rfl sz3 rfl rfl)<|r_u rfl rfl (ze 0 ty3 rfl rfl rfl)<|r_pv rfl rfl (zg Try.underlying51 rfl sz3 rfl rfl)<|r_u rfl rfl (ze 0 ty3 rfl rfl rfl)<|r_pv rfl rfl (zga (z:=(ms*rt)) rfl rfl (w64 (by first|omega|(have:=Bl.mul_b (x:=ar) (y:=le) (m:=4096) (n:=63) (by omega) (by omega);omega)|(have:=Bl.mul_b (x:=ar) (y:=rt) (m:=4096) (n:=63) (by omega) (by omega);omega)|(have:=Bl.mul_b (x:=ar) (y:=tp) (m:=4096) (n:=63) (by omega) (by omega);omega)|(have:=Bl.mul_b (x:=ar) (y:=bt) (m:=4096) (n:=63) (by omega) (by omega);omega)|(have:=Bl.mul_b (x:=ms) (y:=le) (m:=268431360) (n:=63) (by omega) (by omega);omega)|(have:=Bl.mul_b (x:=ms) (y:=rt) (m:=268431360) (n:=63) (by omega) (by omega);omega)|(have:=Bl.mul_b (x:=ms) (y:=tp) (m:=268431360) (n:=63) (by omega) (by omega);omega)|(have:=Bl.mul_b (x:=ms) (y:=bt) (m:=268431360) (n:=63) (by omega) (by omega);omega))))<|zM rfl rfl (.c rfl (.c rfl (.c rfl .n))) ce50 (zDa (n:=mx) (lo:=(ms*le)) (hi:=(ms*rt))) (.n)<|r_pv rfl rfl (zl rfl rfl)<|zR rfl rfl (zb rfl) (fun h13=> ?_) (fun h13=> ?_)
             ·
              refine r_pv rfl rfl (zg Try.underlying51 rfl sz3 rfl rfl)<|r_u rfl rfl (ze 0 ty3 rfl rfl rfl)<|r_pv rfl rfl (zg Try.underlying51 rfl sz3 rfl rfl)<|r_u rfl rfl (ze 0 ty3 rfl rfl rfl)<|r_pv rfl rfl (zg Try.underlying51 rfl sz3 rfl rfl)<|r_u rfl rfl (ze 0 ty3 rfl rfl rfl)<|r_pv rfl rfl (zga (z:=(ms*tp)) rfl rfl (w64 (by first|omega|(have:=Bl.mul_b (x:=ar) (y:=le) (m:=4096) (n:=63) (by omega) (by omega);omega)|(have:=Bl.mul_b (x:=ar) (y:=rt) (m:=4096) (n:=63) (by omega) (by omega);omega)|(have:=Bl.mul_b (x:=ar) (y:=tp) (m:=4096) (n:=63) (by omega) (by omega);omega)|(have:=Bl.mul_b (x:=ar) (y:=bt) (m:=4096) (n:=63) (by omega) (by omega);omega)|(have:=Bl.mul_b (x:=ms) (y:=le) (m:=268431360) (n:=63) (by omega) (by omega);omega)|(have:=Bl.mul_b (x:=ms) (y:=rt) (m:=268431360) (n:=63) (by omega) (by omega);omega)|(have:=Bl.mul_b (x:=ms) (y:=tp) (m:=268431360) (n:=63) (by omega) (by omega);omega)|(have:=Bl.mul_b (x:=ms) (y:=bt) (m:=268431360) (n:=63) (by omega) (by omega);omega))))<|r_pv rfl rfl (zg Try.underlying51 rfl sz3 rfl rfl)<|r_u rfl rfl (ze 0 ty3 rfl rfl rfl)<|r_pv rfl rfl (zg Try.underlying51 rfl sz3 rfl rfl)<|r_u rfl rfl (ze 0 ty3 rfl rfl rfl)<|r_pv rfl rfl (zga (z:=(ms*bt)) rfl rfl (w64 (by first|omega|(have:=Bl.mul_b (x:=ar) (y:=le) (m:=4096) (n:=63) (by omega) (by omega);omega)|(have:=Bl.mul_b (x:=ar) (y:=rt) (m:=4096) (n:=63) (by omega) (by omega);omega)|(have:=Bl.mul_b (x:=ar) (y:=tp) (m:=4096) (n:=63) (by omega) (by omega);omega)|(have:=Bl.mul_b (x:=ar) (y:=bt) (m:=4096) (n:=63) (by omega) (by omega);omega)|(have:=Bl.mul_b (x:=ms) (y:=le) (m:=268431360) (n:=63) (by omega) (by omega);omega)|(have:=Bl.mul_b (x:=ms) (y:=rt) (m:=268431360) (n:=63) (by omega) (by omega);omega)|(have:=Bl.mul_b (x:=ms) (y:=tp) (m:=268431360) (n:=63) (by omega) (by omega);omega)|(have:=Bl.mul_b (x:=ms) (y:=bt) (m:=268431360) (n:=63) (by omega) (by omega);omega))))<|zM rfl rfl (.c rfl (.c rfl (.c rfl .n))) ce50 (zDa (n:=my) (lo:=(ms*tp)) (hi:=(ms*bt))) (.n)<|r_pv rfl rfl (zl rfl rfl)<|r_pv rfl rfl (zd rfl)<|zj ?_
              exact zca () (show True from by first|trivial|omega|simp_all) ((.e rfl (congrArg Value.bool (by first|(simp_all;done)|(simp_all;omega)|(simp;omega)|omega)) (.c rfl .n)):SubM _ _) (ho:=((.c (i:=0) rfl .n):PickO _ _ _)) (.n:SelR _ _ _)
             ·
              refine za rfl rfl<|za rfl rfl<|za rfl rfl<|za rfl rfl<|za rfl rfl<|za rfl rfl<|za rfl rfl<|za rfl rfl<|za rfl rfl<|za rfl rfl<|za rfl rfl<|za rfl rfl<|za rfl rfl<|r_pv rfl rfl (zl rfl rfl)<|r_pv rfl rfl (zd rfl)<|zj ?_
              exact zca () (show True from by first|trivial|omega|simp_all) ((.e rfl (congrArg Value.bool (by first|(simp_all;done)|(simp_all;omega)|(simp;omega)|omega)) (.c rfl .n)):SubM _ _) (ho:=((.c (i:=0) rfl .n):PickO _ _ _)) (.n:SelR _ _ _)
            ·
             refine za rfl rfl<|za rfl rfl<|za rfl rfl<|za rfl rfl<|za rfl rfl<|za rfl rfl<|za rfl rfl<|za rfl rfl<|za rfl rfl<|za rfl rfl<|za rfl rfl<|za rfl rfl<|za rfl rfl<|r_pv rfl rfl (zl rfl rfl)<|r_pv rfl rfl (zb rfl)<|za rfl rfl<|za rfl rfl<|za rfl rfl<|za rfl rfl<|za rfl rfl<|za rfl rfl<|za rfl rfl<|za rfl rfl<|za rfl rfl<|za rfl rfl<|za rfl rfl<|za rfl rfl<|za rfl rfl<|r_pv rfl rfl (zl rfl rfl)<|r_pv rfl rfl (zd rfl)<|zj ?_
             exact zca () (show True from by first|trivial|omega|simp_all) ((.e rfl (congrArg Value.bool (by first|(simp_all;done)|(simp_all;omega)|(simp;omega)|omega)) (.c rfl .n)):SubM _ _) (ho:=((.c (i:=0) rfl .n):PickO _ _ _)) (.n:SelR _ _ _)
           ·
            refine za rfl rfl<|za rfl rfl<|za rfl rfl<|za rfl rfl<|za rfl rfl<|za rfl rfl<|r_pv rfl rfl (zl rfl rfl)<|r_pv rfl rfl (zb rfl)<|za rfl rfl<|za rfl rfl<|za rfl rfl<|za rfl rfl<|za rfl rfl<|za rfl rfl<|za rfl rfl<|za rfl rfl<|za rfl rfl<|za rfl rfl<|za rfl rfl<|za rfl rfl<|za rfl rfl<|r_pv rfl rfl (zl rfl rfl)<|r_pv rfl rfl (zb rfl)<|za rfl rfl<|za rfl rfl<|za rfl rfl<|za rfl rfl<|za rfl rfl<|za rfl rfl<|za rfl rfl<|za rfl rfl<|za rfl rfl<|za rfl rfl<|za rfl rfl<|za rfl rfl<|za rfl rfl<|r_pv rfl rfl (zl rfl rfl)<|r_pv rfl rfl (zd rfl)<|zj ?_
            exact zca () (show True from by first|trivial|omega|simp_all) ((.e rfl (congrArg Value.bool (by first|(simp_all;done)|(simp_all;omega)|(simp;omega)|omega)) (.c rfl .n)):SubM _ _) (ho:=((.c (i:=0) rfl .n):PickO _ _ _)) (.n:SelR _ _ _)
          ·
           refine za rfl rfl<|za rfl rfl<|za rfl rfl<|za rfl rfl<|za rfl rfl<|za rfl rfl<|za rfl rfl<|za rfl rfl<|za rfl rfl<|r_pv rfl rfl (zl rfl rfl)<|r_pv rfl rfl (zb rfl)<|za rfl rfl<|za rfl rfl<|za rfl rfl<|za rfl rfl<|za rfl rfl<|za rfl rfl<|r_pv rfl rfl (zl rfl rfl)<|r_pv rfl rfl (zb rfl)<|za rfl rfl<|za rfl rfl<|za rfl rfl<|za rfl rfl<|za rfl rfl<|za rfl rfl<|za rfl rfl<|za rfl rfl<|za rfl rfl<|za rfl rfl<|za rfl rfl<|za rfl rfl<|za rfl rfl<|r_pv rfl rfl (zl rfl rfl)<|r_pv rfl rfl (zb rfl)<|za rfl rfl<|za rfl rfl<|za rfl rfl<|za rfl rfl<|za rfl rfl<|za rfl rfl<|za rfl rfl<|za rfl rfl<|za rfl rfl<|za rfl rfl<|za rfl rfl<|za rfl rfl<|za rfl rfl<|r_pv rfl rfl (zl rfl rfl)<|r_pv rfl rfl (zd rfl)<|zj ?_
           exact zca () (show True from by first|trivial|omega|simp_all) ((.e rfl (congrArg Value.bool (by first|(simp_all;done)|(simp_all;omega)|(simp;omega)|omega)) (.c rfl .n)):SubM _ _) (ho:=((.c (i:=0) rfl .n):PickO _ _ _)) (.n:SelR _ _ _)
         ·
          refine za rfl rfl<|za rfl rfl<|za rfl rfl<|za rfl rfl<|za rfl rfl<|za rfl rfl<|za rfl rfl<|za rfl rfl<|za rfl rfl<|r_pv rfl rfl (zl rfl rfl)<|r_pv rfl rfl (zb rfl)<|za rfl rfl<|za rfl rfl<|za rfl rfl<|za rfl rfl<|za rfl rfl<|za rfl rfl<|za rfl rfl<|za rfl rfl<|za rfl rfl<|r_pv rfl rfl (zl rfl rfl)<|r_pv rfl rfl (zb rfl)<|za rfl rfl<|za rfl rfl<|za rfl rfl<|za rfl rfl<|za rfl rfl<|za rfl rfl<|r_pv rfl rfl (zl rfl rfl)<|r_pv rfl rfl (zb rfl)<|za rfl rfl<|za rfl rfl<|za rfl rfl<|za rfl rfl<|za rfl rfl<|za rfl rfl<|za rfl rfl<|za rfl rfl<|za rfl rfl<|za rfl rfl<|za rfl rfl<|za rfl rfl<|za rfl rfl<|r_pv rfl rfl (zl rfl rfl)<|r_pv rfl rfl (zb rfl)<|za rfl rfl<|za rfl rfl<|za rfl rfl<|za rfl rfl<|za rfl rfl<|za rfl rfl<|za rfl rfl<|za rfl rfl<|za rfl rfl<|za rfl rfl<|za rfl rfl<|za rfl rfl<|za rfl rfl<|r_pv rfl rfl (zl rfl rfl)<|r_pv rfl rfl (zd rfl)<|zj ?_
          exact zca () (show True from by first|trivial|omega|simp_all) ((.e rfl (congrArg Value.bool (by first|(simp_all;done)|(simp_all;omega)|(simp;omega)|omega)) (.c rfl .n)):SubM _ _) (ho:=((.c (i:=0) rfl .n):PickO _ _ _)) (.n:SelR _ _ _)
        ·
         refine za rfl rfl<|za rfl rfl<|za rfl rfl<|za rfl rfl<|za rfl rfl<|za rfl rfl<|za rfl rfl<|za rfl rfl<|za rfl rfl<|r_pv rfl rfl (zl rfl rfl)<|r_pv rfl rfl (zb rfl)<|za rfl rfl<|za rfl rfl<|za rfl rfl<|za rfl rfl<|za rfl rfl<|za rfl rfl<|za rfl rfl<|za rfl rfl<|za rfl rfl<|r_pv rfl rfl (zl rfl rfl)<|r_pv rfl rfl (zb rfl)<|za rfl rfl<|za rfl rfl<|za rfl rfl<|za rfl rfl<|za rfl rfl<|za rfl rfl<|za rfl rfl<|za rfl rfl<|za rfl rfl<|r_pv rfl rfl (zl rfl rfl)<|r_pv rfl rfl (zb rfl)<|za rfl rfl<|za rfl rfl<|za rfl rfl<|za rfl rfl<|za rfl rfl<|za rfl rfl<|r_pv rfl rfl (zl rfl rfl)<|r_pv rfl rfl (zb rfl)<|za rfl rfl<|za rfl rfl<|za rfl rfl<|za rfl rfl<|za rfl rfl<|za rfl rfl<|za rfl rfl<|za rfl rfl<|za rfl rfl<|za rfl rfl<|za rfl rfl<|za rfl rfl<|za rfl rfl<|r_pv rfl rfl (zl rfl rfl)<|r_pv rfl rfl (zb rfl)<|za rfl rfl<|za rfl rfl<|za rfl rfl<|za rfl rfl<|za rfl rfl<|za rfl rfl<|za rfl rfl<|za rfl rfl<|za rfl rfl<|za rfl rfl<|za rfl rfl<|za rfl rfl<|za rfl rfl<|r_pv rfl rfl (zl rfl rfl)<|r_pv rfl rfl (zd rfl)<|zj ?_
         exact zca () (show True from by first|trivial|omega|simp_all) ((.e rfl (congrArg Value.bool (by first|(simp_all;done)|(simp_all;omega)|(simp;omega)|omega)) (.c rfl .n)):SubM _ _) (ho:=((.c (i:=0) rfl .n):PickO _ _ _)) (.n:SelR _ _ _)
       ·
        refine za rfl rfl<|za rfl rfl<|za rfl rfl<|za rfl rfl<|za rfl rfl<|za rfl rfl<|za rfl rfl<|za rfl rfl<|za rfl rfl<|za rfl rfl<|za rfl rfl<|za rfl rfl<|za rfl rfl<|r_pv rfl rfl (zl rfl rfl)<|r_pv rfl rfl (zb rfl)<|za rfl rfl<|za rfl rfl<|za rfl rfl<|za rfl rfl<|za rfl rfl<|za rfl rfl<|za rfl rfl<|za rfl rfl<|za rfl rfl<|r_pv rfl rfl (zl rfl rfl)<|r_pv rfl rfl (zb rfl)<|za rfl rfl<|za rfl rfl<|za rfl rfl<|za rfl rfl<|za rfl rfl<|za rfl rfl<|za rfl rfl<|za rfl rfl<|za rfl rfl<|r_pv rfl rfl (zl rfl rfl)<|r_pv rfl rfl (zb rfl)<|za rfl rfl<|za rfl rfl<|za rfl rfl<|za rfl rfl<|za rfl rfl<|za rfl rfl<|za rfl rfl<|za rfl rfl<|za rfl rfl<|r_pv rfl rfl (zl rfl rfl)<|r_pv rfl rfl (zb rfl)<|za rfl rfl<|za rfl rfl<|za rfl rfl<|za rfl rfl<|za rfl rfl<|za rfl rfl<|r_pv rfl rfl (zl rfl rfl)<|r_pv rfl rfl (zb rfl)<|za rfl rfl<|za rfl rfl<|za rfl rfl<|za rfl rfl<|za rfl rfl<|za rfl rfl<|za rfl rfl<|za rfl rfl<|za rfl rfl<|za rfl rfl<|za rfl rfl<|za rfl rfl<|za rfl rfl<|r_pv rfl rfl (zl rfl rfl)<|r_pv rfl rfl (zb rfl)<|za rfl rfl<|za rfl rfl<|za rfl rfl<|za rfl rfl<|za rfl rfl<|za rfl rfl<|za rfl rfl<|za rfl rfl<|za rfl rfl<|za rfl rfl<|za rfl rfl<|za rfl rfl<|za rfl rfl<|r_pv rfl rfl (zl rfl rfl)<|r_pv rfl rfl (zd rfl)<|zj ?_
        exact zca () (show True from by first|trivial|omega|simp_all) ((.e rfl (congrArg Value.bool (by first|(simp_all;done)|(simp_all;omega)|(simp;omega)|omega)) (.c rfl .n)):SubM _ _) (ho:=((.c (i:=0) rfl .n):PickO _ _ _)) (.n:SelR _ _ _)
      ·
       refine za rfl rfl<|za rfl rfl<|za rfl rfl<|za rfl rfl<|za rfl rfl<|za rfl rfl<|za rfl rfl<|za rfl rfl<|za rfl rfl<|za rfl rfl<|za rfl rfl<|za rfl rfl<|za rfl rfl<|r_pv rfl rfl (zl rfl rfl)<|r_pv rfl rfl (zb rfl)<|za rfl rfl<|za rfl rfl<|za rfl rfl<|za rfl rfl<|za rfl rfl<|za rfl rfl<|za rfl rfl<|za rfl rfl<|za rfl rfl<|za rfl rfl<|za rfl rfl<|za rfl rfl<|za rfl rfl<|r_pv rfl rfl (zl rfl rfl)<|r_pv rfl rfl (zb rfl)<|za rfl rfl<|za rfl rfl<|za rfl rfl<|za rfl rfl<|za rfl rfl<|za rfl rfl<|za rfl rfl<|za rfl rfl<|za rfl rfl<|r_pv rfl rfl (zl rfl rfl)<|r_pv rfl rfl (zb rfl)<|za rfl rfl<|za rfl rfl<|za rfl rfl<|za rfl rfl<|za rfl rfl<|za rfl rfl<|za rfl rfl<|za rfl rfl<|za rfl rfl<|r_pv rfl rfl (zl rfl rfl)<|r_pv rfl rfl (zb rfl)<|za rfl rfl<|za rfl rfl<|za rfl rfl<|za rfl rfl<|za rfl rfl<|za rfl rfl<|za rfl rfl<|za rfl rfl<|za rfl rfl<|r_pv rfl rfl (zl rfl rfl)<|r_pv rfl rfl (zb rfl)<|za rfl rfl<|za rfl rfl<|za rfl rfl<|za rfl rfl<|za rfl rfl<|za rfl rfl<|r_pv rfl rfl (zl rfl rfl)<|r_pv rfl rfl (zb rfl)<|za rfl rfl<|za rfl rfl<|za rfl rfl<|za rfl rfl<|za rfl rfl<|za rfl rfl<|za rfl rfl<|za rfl rfl<|za rfl rfl<|za rfl rfl<|za rfl rfl<|za rfl rfl<|za rfl rfl<|r_pv rfl rfl (zl rfl rfl)<|r_pv rfl rfl (zb rfl)<|za rfl rfl<|za rfl rfl<|za rfl rfl<|za rfl rfl<|za rfl rfl<|za rfl rfl<|za rfl rfl<|za rfl rfl<|za rfl rfl<|za rfl rfl<|za rfl rfl<|za rfl rfl<|za rfl rfl<|r_pv rfl rfl (zl rfl rfl)<|r_pv rfl rfl (zd rfl)<|zj ?_
       exact zca () (show True from by first|trivial|omega|simp_all) ((.e rfl (congrArg Value.bool (by first|(simp_all;done)|(simp_all;omega)|(simp;omega)|omega)) (.c rfl .n)):SubM _ _) (ho:=((.c (i:=0) rfl .n):PickO _ _ _)) (.n:SelR _ _ _)
     ·
      refine za rfl rfl<|za rfl rfl<|za rfl rfl<|za rfl rfl<|r_pv rfl rfl (zl rfl rfl)<|r_pv rfl rfl (zb rfl)<|za rfl rfl<|za rfl rfl<|za rfl rfl<|za rfl rfl<|za rfl rfl<|za rfl rfl<|za rfl rfl<|za rfl rfl<|za rfl rfl<|za rfl rfl<|za rfl rfl<|za rfl rfl<|za rfl rfl<|r_pv rfl rfl (zl rfl rfl)<|r_pv rfl rfl (zb rfl)<|za rfl rfl<|za rfl rfl<|za rfl rfl<|za rfl rfl<|za rfl rfl<|za rfl rfl<|za rfl rfl<|za rfl rfl<|za rfl rfl<|za rfl rfl<|za rfl rfl<|za rfl rfl<|za rfl rfl<|r_pv rfl rfl (zl rfl rfl)<|r_pv rfl rfl (zb rfl)<|za rfl rfl<|za rfl rfl<|za rfl rfl<|za rfl rfl<|za rfl rfl<|za rfl rfl<|za rfl rfl<|za rfl rfl<|za rfl rfl<|r_pv rfl rfl (zl rfl rfl)<|r_pv rfl rfl (zb rfl)<|za rfl rfl<|za rfl rfl<|za rfl rfl<|za rfl rfl<|za rfl rfl<|za rfl rfl<|za rfl rfl<|za rfl rfl<|za rfl rfl<|r_pv rfl rfl (zl rfl rfl)<|r_pv rfl rfl (zb rfl)<|za rfl rfl<|za rfl rfl<|za rfl rfl<|za rfl rfl<|za rfl rfl<|za rfl rfl<|za rfl rfl<|za rfl rfl<|za rfl rfl<|r_pv rfl rfl (zl rfl rfl)<|r_pv rfl rfl (zb rfl)<|za rfl rfl<|za rfl rfl<|za rfl rfl<|za rfl rfl<|za rfl rfl<|za rfl rfl<|r_pv rfl rfl (zl rfl rfl)<|r_pv rfl rfl (zb rfl)<|za rfl rfl<|za rfl rfl<|za rfl rfl<|za rfl rfl<|za rfl rfl<|za rfl rfl<|za rfl rfl<|za rfl rfl<|za rfl rfl<|za rfl rfl<|za rfl rfl<|za rfl rfl<|za rfl rfl<|r_pv rfl rfl (zl rfl rfl)<|r_pv rfl rfl (zb rfl)<|za rfl rfl<|za rfl rfl<|za rfl rfl<|za rfl rfl<|za rfl rfl<|za rfl rfl<|za rfl rfl<|za rfl rfl<|za rfl rfl<|za rfl rfl<|za rfl rfl<|za rfl rfl<|za rfl rfl<|r_pv rfl rfl (zl rfl rfl)<|r_pv rfl rfl (zd rfl)<|zj ?_
      exact zca () (show True from by first|trivial|omega|simp_all) ((.e rfl (congrArg Value.bool (by first|(simp_all;done)|(simp_all;omega)|(simp;omega)|omega)) (.c rfl .n)):SubM _ _) (ho:=((.c (i:=0) rfl .n):PickO _ _ _)) (.n:SelR _ _ _)
    ·
     refine za rfl rfl<|za rfl rfl<|za rfl rfl<|za rfl rfl<|za rfl rfl<|r_pv rfl rfl (zl rfl rfl)<|r_pv rfl rfl (zb rfl)<|za rfl rfl<|za rfl rfl<|za rfl rfl<|za rfl rfl<|r_pv rfl rfl (zl rfl rfl)<|r_pv rfl rfl (zb rfl)<|za rfl rfl<|za rfl rfl<|za rfl rfl<|za rfl rfl<|za rfl rfl<|za rfl rfl<|za rfl rfl<|za rfl rfl<|za rfl rfl<|za rfl rfl<|za rfl rfl<|za rfl rfl<|za rfl rfl<|r_pv rfl rfl (zl rfl rfl)<|r_pv rfl rfl (zb rfl)<|za rfl rfl<|za rfl rfl<|za rfl rfl<|za rfl rfl<|za rfl rfl<|za rfl rfl<|za rfl rfl<|za rfl rfl<|za rfl rfl<|za rfl rfl<|za rfl rfl<|za rfl rfl<|za rfl rfl<|r_pv rfl rfl (zl rfl rfl)<|r_pv rfl rfl (zb rfl)<|za rfl rfl<|za rfl rfl<|za rfl rfl<|za rfl rfl<|za rfl rfl<|za rfl rfl<|za rfl rfl<|za rfl rfl<|za rfl rfl<|r_pv rfl rfl (zl rfl rfl)<|r_pv rfl rfl (zb rfl)<|za rfl rfl<|za rfl rfl<|za rfl rfl<|za rfl rfl<|za rfl rfl<|za rfl rfl<|za rfl rfl<|za rfl rfl<|za rfl rfl<|r_pv rfl rfl (zl rfl rfl)<|r_pv rfl rfl (zb rfl)<|za rfl rfl<|za rfl rfl<|za rfl rfl<|za rfl rfl<|za rfl rfl<|za rfl rfl<|za rfl rfl<|za rfl rfl<|za rfl rfl<|r_pv rfl rfl (zl rfl rfl)<|r_pv rfl rfl (zb rfl)<|za rfl rfl<|za rfl rfl<|za rfl rfl<|za rfl rfl<|za rfl rfl<|za rfl rfl<|r_pv rfl rfl (zl rfl rfl)<|r_pv rfl rfl (zb rfl)<|za rfl rfl<|za rfl rfl<|za rfl rfl<|za rfl rfl<|za rfl rfl<|za rfl rfl<|za rfl rfl<|za rfl rfl<|za rfl rfl<|za rfl rfl<|za rfl rfl<|za rfl rfl<|za rfl rfl<|r_pv rfl rfl (zl rfl rfl)<|r_pv rfl rfl (zb rfl)<|za rfl rfl<|za rfl rfl<|za rfl rfl<|za rfl rfl<|za rfl rfl<|za rfl rfl<|za rfl rfl<|za rfl rfl<|za rfl rfl<|za rfl rfl<|za rfl rfl<|za rfl rfl<|za rfl rfl<|r_pv rfl rfl (zl rfl rfl)<|r_pv rfl rfl (zd rfl)<|zj ?_
     exact zca () (show True from by first|trivial|omega|simp_all) ((.e rfl (congrArg Value.bool (by first|(simp_all;done)|(simp_all;omega)|(simp;omega)|omega)) (.c rfl .n)):SubM _ _) (ho:=((.c (i:=0) rfl .n):PickO _ _ _)) (.n:SelR _ _ _)
   ·
    refine za rfl rfl<|za rfl rfl<|za rfl rfl<|za rfl rfl<|r_pv rfl rfl (zl rfl rfl)<|r_pv rfl rfl (zb rfl)<|za rfl rfl<|za rfl rfl<|za rfl rfl<|za rfl rfl<|za rfl rfl<|r_pv rfl rfl (zl rfl rfl)<|r_pv rfl rfl (zb rfl)<|za rfl rfl<|za rfl rfl<|za rfl rfl<|za rfl rfl<|r_pv rfl rfl (zl rfl rfl)<|r_pv rfl rfl (zb rfl)<|za rfl rfl<|za rfl rfl<|za rfl rfl<|za rfl rfl<|za rfl rfl<|za rfl rfl<|za rfl rfl<|za rfl rfl<|za rfl rfl<|za rfl rfl<|za rfl rfl<|za rfl rfl<|za rfl rfl<|r_pv rfl rfl (zl rfl rfl)<|r_pv rfl rfl (zb rfl)<|za rfl rfl<|za rfl rfl<|za rfl rfl<|za rfl rfl<|za rfl rfl<|za rfl rfl<|za rfl rfl<|za rfl rfl<|za rfl rfl<|za rfl rfl<|za rfl rfl<|za rfl rfl<|za rfl rfl<|r_pv rfl rfl (zl rfl rfl)<|r_pv rfl rfl (zb rfl)<|za rfl rfl<|za rfl rfl<|za rfl rfl<|za rfl rfl<|za rfl rfl<|za rfl rfl<|za rfl rfl<|za rfl rfl<|za rfl rfl<|r_pv rfl rfl (zl rfl rfl)<|r_pv rfl rfl (zb rfl)<|za rfl rfl<|za rfl rfl<|za rfl rfl<|za rfl rfl<|za rfl rfl<|za rfl rfl<|za rfl rfl<|za rfl rfl<|za rfl rfl<|r_pv rfl rfl (zl rfl rfl)<|r_pv rfl rfl (zb rfl)<|za rfl rfl<|za rfl rfl<|za rfl rfl<|za rfl rfl<|za rfl rfl<|za rfl rfl<|za rfl rfl<|za rfl rfl<|za rfl rfl<|r_pv rfl rfl (zl rfl rfl)<|r_pv rfl rfl (zb rfl)<|za rfl rfl<|za rfl rfl<|za rfl rfl<|za rfl rfl<|za rfl rfl<|za rfl rfl<|r_pv rfl rfl (zl rfl rfl)<|r_pv rfl rfl (zb rfl)<|za rfl rfl<|za rfl rfl<|za rfl rfl<|za rfl rfl<|za rfl rfl<|za rfl rfl<|za rfl rfl<|za rfl rfl<|za rfl rfl<|za rfl rfl<|za rfl rfl<|za rfl rfl<|za rfl rfl<|r_pv rfl rfl (zl rfl rfl)<|r_pv rfl rfl (zb rfl)<|za rfl rfl<|za rfl rfl<|za rfl rfl<|za rfl rfl<|za rfl rfl<|za rfl rfl<|za rfl rfl<|za rfl rfl<|za rfl rfl<|za rfl rfl<|za rfl rfl<|za rfl rfl<|za rfl rfl<|r_pv rfl rfl (zl rfl rfl)<|r_pv rfl rfl (zd rfl)<|zj ?_
    exact zca () (show True from by first|trivial|omega|simp_all) ((.e rfl (congrArg Value.bool (by first|(simp_all;done)|(simp_all;omega)|(simp;omega)|omega)) (.c rfl .n)):SubM _ _) (ho:=((.c (i:=0) rfl .n):PickO _ _ _)) (.n:SelR _ _ _)
  ·
   refine za rfl rfl<|za rfl rfl<|za rfl rfl<|za rfl rfl<|za rfl rfl<|r_pv rfl rfl (zl rfl rfl)<|r_pv rfl rfl (zb rfl)<|za rfl rfl<|za rfl rfl<|za rfl rfl<|za rfl rfl<|r_pv rfl rfl (zl rfl rfl)<|r_pv rfl rfl (zb rfl)<|za rfl rfl<|za rfl rfl<|za rfl rfl<|za rfl rfl<|za rfl rfl<|r_pv rfl rfl (zl rfl rfl)<|r_pv rfl rfl (zb rfl)<|za rfl rfl<|za rfl rfl<|za rfl rfl<|za rfl rfl<|r_pv rfl rfl (zl rfl rfl)<|r_pv rfl rfl (zb rfl)<|za rfl rfl<|za rfl rfl<|za rfl rfl<|za rfl rfl<|za rfl rfl<|za rfl rfl<|za rfl rfl<|za rfl rfl<|za rfl rfl<|za rfl rfl<|za rfl rfl<|za rfl rfl<|za rfl rfl<|r_pv rfl rfl (zl rfl rfl)<|r_pv rfl rfl (zb rfl)<|za rfl rfl<|za rfl rfl<|za rfl rfl<|za rfl rfl<|za rfl rfl<|za rfl rfl<|za rfl rfl<|za rfl rfl<|za rfl rfl<|za rfl rfl<|za rfl rfl<|za rfl rfl<|za rfl rfl<|r_pv rfl rfl (zl rfl rfl)<|r_pv rfl rfl (zb rfl)<|za rfl rfl<|za rfl rfl<|za rfl rfl<|za rfl rfl<|za rfl rfl<|za rfl rfl<|za rfl rfl<|za rfl rfl<|za rfl rfl<|r_pv rfl rfl (zl rfl rfl)<|r_pv rfl rfl (zb rfl)<|za rfl rfl<|za rfl rfl<|za rfl rfl<|za rfl rfl<|za rfl rfl<|za rfl rfl<|za rfl rfl<|za rfl rfl<|za rfl rfl<|r_pv rfl rfl (zl rfl rfl)<|r_pv rfl rfl (zb rfl)<|za rfl rfl<|za rfl rfl<|za rfl rfl<|za rfl rfl<|za rfl rfl<|za rfl rfl<|za rfl rfl<|za rfl rfl<|za rfl rfl<|r_pv rfl rfl (zl rfl rfl)<|r_pv rfl rfl (zb rfl)<|za rfl rfl<|za rfl rfl<|za rfl rfl<|za rfl rfl<|za rfl rfl<|za rfl rfl<|r_pv rfl rfl (zl rfl rfl)<|r_pv rfl rfl (zb rfl)<|za rfl rfl<|za rfl rfl<|za rfl rfl<|za rfl rfl<|za rfl rfl<|za rfl rfl<|za rfl rfl<|za rfl rfl<|za rfl rfl<|za rfl rfl<|za rfl rfl<|za rfl rfl<|za rfl rfl<|r_pv rfl rfl (zl rfl rfl)<|r_pv rfl rfl (zb rfl)<|za rfl rfl<|za rfl rfl<|za rfl rfl<|za rfl rfl<|za rfl rfl<|za rfl rfl<|za rfl rfl<|za rfl rfl<|za rfl rfl<|za rfl rfl<|za rfl rfl<|za rfl rfl<|za rfl rfl<|r_pv rfl rfl (zl rfl rfl) ?_
   refine r_pv rfl rfl (zd rfl)<|zj ?_
   exact zca () (show True from by first|trivial|omega|simp_all) ((.e rfl (congrArg Value.bool (by first|(simp_all;done)|(simp_all;omega)|(simp;omega)|omega)) (.c rfl .n)):SubM _ _) (ho:=((.c (i:=0) rfl .n):PickO _ _ _)) (.n:SelR _ _ _)
 ·
  rintro ⟨⟩ -
  try dsimp only
  refine zi<|zi<|zc<|r_pv rfl rfl (zb rfl)<|r_pv rfl rfl (zkb rfl)<|zj<|zf<|zC rfl (fun h14=> ?_) (fun h14=> ?_)
  ·
   refine zi<|zc<|r_pv rfl rfl (zd rfl)<|zj<|zf<|zI<|zt ?_
   exact zD Try.results28 () trivial (zq rfl) (by first|rw [if_pos (by unfold Bl.ok;omega)]|rw [if_neg (by unfold Bl.ok;omega)]) (ho:=(.n:PickO _ _ _)) (.n:SelR _ _ _)
  ·
   refine zy<|zf<|zi<|zc<|r_pv rfl rfl (zd rfl)<|zj<|zf<|zI ?_
   exact zD Try.results28 () trivial (zq rfl) (by first|rw [if_pos (by unfold Bl.ok;omega)]|rw [if_neg (by unfold Bl.ok;omega)]) (ho:=(.n:PickO _ _ _)) (.n:SelR _ _ _)
end Go.Proofs.Ytefbbhiaalcjfaa.Sp
namespace Go.Proofs.Ytefbbhiaalcjfaa.Sp
open Go
set_option linter.unusedVariables false
set_option maxRecDepth 100000
set_option maxHeartbeats 1000000
theorem zOb {ar1:Int} {le1:Int} {tp1:Int} {rt1:Int} {bt1:Int} {sx1:Int} {sy1:Int} {xx1:Int} {xy1:Int} {yy1:Int} {ms1:Int} {mx1:Int} {my1:Int} {ar2:Int} {le2:Int} {tp2:Int} {rt2:Int} {bt2:Int} {sx2:Int} {sy2:Int} {xx2:Int} {xy2:Int} {yy2:Int} {ms2:Int} {mx2:Int} {my2:Int} (hb1:Bl.bd ar1 le1 tp1 rt1 bt1 sx1 sy1 xx1 xy1 yy1 ms1 mx1 my1) (hb2:Bl.bd ar2 le2 tp2 rt2 bt2 sx2 sy2 xx2 xy2 yy2 ms2 mx2 my2):Con Try.prog 40 [.agg #[.int .i64 ar1,.int .i64 le1,.int .i64 tp1,.int .i64 rt1,.int .i64 bt1,.int .i64 sx1,.int .i64 sy1,.int .i64 xx1,.int .i64 xy1,.int .i64 yy1,.int .i64 ms1,.int .i64 mx1,.int .i64 my1],.agg #[.int .i64 ar2,.int .i64 le2,.int .i64 tp2,.int .i64 rt2,.int .i64 bt2,.int .i64 sx2,.int .i64 sy2,.int .i64 xx2,.int .i64 xy2,.int .i64 yy2,.int .i64 ms2,.int .i64 mx2,.int .i64 my2]] [] [] (Y:=Unit) (fun y=>True) (fun y=> .agg #[.int .i64 (ar1+ar2),.int .i64 (min le1 le2),.int .i64 (min tp1 tp2),.int .i64 (max rt1 rt2),.int .i64 (max bt1 bt2),.int .i64 (sx1+sx2),.int .i64 (sy1+sy2),.int .i64 (xx1+xx2),.int .i64 (xy1+xy2),.int .i64 (yy1+yy2),.int .i64 (ms1+ms2),.int .i64 (mx1+mx2),.int .i64 (my1+my2)]) (fun y=>[]) (fun y=>[]):=by
 refine zr Try.func40 rfl rfl rfl (fun c=> ?_)
 show RunC _ _ _ _ _ [(0,.agg #[.int .i64 ar1,.int .i64 le1,.int .i64 tp1,.int .i64 rt1,.int .i64 bt1,.int .i64 sx1,.int .i64 sy1,.int .i64 xx1,.int .i64 xy1,.int .i64 yy1,.int .i64 ms1,.int .i64 mx1,.int .i64 my1]),(1,.agg #[.int .i64 ar2,.int .i64 le2,.int .i64 tp2,.int .i64 rt2,.int .i64 bt2,.int .i64 sx2,.int .i64 sy2,.int .i64 xx2,.int .i64 xy2,.int .i64 yy2,.int .i64 ms2,.int .i64 mx2,.int .i64 my2])] [] []
 unfold Bl.bd at hb1 hb2
 refine zi<|zc<|zQ rfl rfl (zV rfl rfl) (fun b1=> ?_)
 refine zQ rfl rfl (zV rfl rfl) (fun b2=> ?_)
 refine zQ rfl rfl (zE zr51 rfl) (fun b3=> ?_)
 refine zj<|zf<|zi<|zc<|r_pv rfl rfl (zg Try.underlying51 rfl sz3 rfl rfl)<|r_u rfl rfl (ze 2 ty3 rfl rfl rfl)<|r_pv rfl rfl (zg Try.underlying51 rfl sz3 rfl rfl)<|r_u rfl rfl (ze 1 ty3 rfl rfl rfl)<|r_pv rfl rfl (zz (z:=(ar1+ar2)) rfl rfl (w64 (by omega)))<|r_pv rfl rfl (zg Try.underlying51 rfl sz3 rfl rfl)<|r_u rfl rfl (ze 2 ty3 rfl rfl rfl)<|r_pv rfl rfl (zg Try.underlying51 rfl sz3 rfl rfl)<|r_u rfl rfl (ze 1 ty3 rfl rfl rfl)<|r_pv rfl rfl (zrf rfl rfl)<|r_pv rfl rfl (zg Try.underlying51 rfl sz3 rfl rfl)<|r_u rfl rfl (ze 2 ty3 rfl rfl rfl)<|r_pv rfl rfl (zg Try.underlying51 rfl sz3 rfl rfl)<|r_u rfl rfl (ze 1 ty3 rfl rfl rfl)<|r_pv rfl rfl (zrf rfl rfl)<|r_pv rfl rfl (zg Try.underlying51 rfl sz3 rfl rfl)<|r_u rfl rfl (ze 2 ty3 rfl rfl rfl)<|r_pv rfl rfl (zg Try.underlying51 rfl sz3 rfl rfl)<|r_u rfl rfl (ze 1 ty3 rfl rfl rfl)<|r_pv rfl rfl (zEd rfl rfl)<|r_pv rfl rfl (zg Try.underlying51 rfl sz3 rfl rfl)<|r_u rfl rfl (ze 2 ty3 rfl rfl rfl)<|r_pv rfl rfl (zg Try.underlying51 rfl sz3 rfl rfl)<|r_u rfl rfl (ze 1 ty3 rfl rfl rfl)<|r_pv rfl rfl (zEd rfl rfl)<|r_pv rfl rfl (zg Try.underlying51 rfl sz3 rfl rfl)<|r_u rfl rfl (ze 2 ty3 rfl rfl rfl)<|r_pv rfl rfl (zg Try.underlying51 rfl sz3 rfl rfl)<|r_u rfl rfl (ze 1 ty3 rfl rfl rfl)<|r_pv rfl rfl (zz (z:=(sx1+sx2)) rfl rfl (w64 (by omega)))<|r_pv rfl rfl (zg Try.underlying51 rfl sz3 rfl rfl)<|r_u rfl rfl (ze 2 ty3 rfl rfl rfl)<|r_pv rfl rfl (zg Try.underlying51 rfl sz3 rfl rfl)<|r_u rfl rfl (ze 1 ty3 rfl rfl rfl)<|r_pv rfl rfl (zz (z:=(sy1+sy2)) rfl rfl (w64 (by omega)))<|r_pv rfl rfl (zg Try.underlying51 rfl sz3 rfl rfl)<|r_u rfl rfl (ze 2 ty3 rfl rfl rfl)<|r_pv rfl rfl (zg Try.underlying51 rfl sz3 rfl rfl)<|r_u rfl rfl (ze 1 ty3 rfl rfl rfl)<|r_pv rfl rfl (zz (z:=(xx1+xx2)) rfl rfl (w64 (by omega)))<|r_pv rfl rfl (zg Try.underlying51 rfl sz3 rfl rfl)<|r_u rfl rfl (ze 2 ty3 rfl rfl rfl)<|r_pv rfl rfl (zg Try.underlying51 rfl sz3 rfl rfl)<|r_u rfl rfl (ze 1 ty3 rfl rfl rfl)<|r_pv rfl rfl (zz (z:=(xy1+xy2)) rfl rfl (w64 (by omega)))<|r_pv rfl rfl (zg Try.underlying51 rfl sz3 rfl rfl)<|r_u rfl rfl (ze 2 ty3 rfl rfl rfl)<|r_pv rfl rfl (zg Try.underlying51 rfl sz3 rfl rfl)<|r_u rfl rfl (ze 1 ty3 rfl rfl rfl)<|r_pv rfl rfl (zz (z:=(yy1+yy2)) rfl rfl (w64 (by omega)))<|r_pv rfl rfl (zg Try.underlying51 rfl sz3 rfl rfl)<|r_u rfl rfl (ze 2 ty3 rfl rfl rfl) ?_
 refine r_pv rfl rfl (zg Try.underlying51 rfl sz3 rfl rfl)<|r_u rfl rfl (ze 1 ty3 rfl rfl rfl)<|r_pv rfl rfl (zz (z:=(ms1+ms2)) rfl rfl (w64 (by omega)))<|r_pv rfl rfl (zg Try.underlying51 rfl sz3 rfl rfl)<|r_u rfl rfl (ze 2 ty3 rfl rfl rfl)<|r_pv rfl rfl (zg Try.underlying51 rfl sz3 rfl rfl)<|r_u rfl rfl (ze 1 ty3 rfl rfl rfl)<|r_pv rfl rfl (zz (z:=(mx1+mx2)) rfl rfl (w64 (by omega)))<|r_pv rfl rfl (zg Try.underlying51 rfl sz3 rfl rfl)<|r_u rfl rfl (ze 2 ty3 rfl rfl rfl)<|r_pv rfl rfl (zg Try.underlying51 rfl sz3 rfl rfl)<|r_u rfl rfl (ze 1 ty3 rfl rfl rfl)<|r_pv rfl rfl (zz (z:=(my1+my2)) rfl rfl (w64 (by omega)))<|r_pv rfl rfl (zG zr51 rfl Try.underlying51 (.c sz3 (.c sz3 (.c sz3 (.c sz3 (.c sz3 (.c sz3 (.c sz3 (.c sz3 (.c sz3 (.c sz3 (.c sz3 (.c sz3 (.c sz3 .n))))))))))))) (.c rfl (.c rfl (.c rfl (.c rfl (.c rfl (.c rfl (.c rfl (.c rfl (.c rfl (.c rfl (.c rfl (.c rfl (.c rfl .n))))))))))))) (.c rfl rfl rfl (.take .nil) (.c rfl rfl rfl (.skip (.take .nil)) (.c rfl rfl rfl (.skip (.skip (.take .nil))) (.c rfl rfl rfl (.skip (.skip (.skip (.take .nil)))) (.c rfl rfl rfl (.skip (.skip (.skip (.skip (.take .nil))))) (.c rfl rfl rfl (.skip (.skip (.skip (.skip (.skip (.take .nil)))))) (.c rfl rfl rfl (.skip (.skip (.skip (.skip (.skip (.skip (.take .nil))))))) (.c rfl rfl rfl (.skip (.skip (.skip (.skip (.skip (.skip (.skip (.take .nil)))))))) (.c rfl rfl rfl (.skip (.skip (.skip (.skip (.skip (.skip (.skip (.skip (.take .nil))))))))) (.c rfl rfl rfl (.skip (.skip (.skip (.skip (.skip (.skip (.skip (.skip (.skip (.take .nil)))))))))) (.c rfl rfl rfl (.skip (.skip (.skip (.skip (.skip (.skip (.skip (.skip (.skip (.skip (.take .nil))))))))))) (.c rfl rfl rfl (.skip (.skip (.skip (.skip (.skip (.skip (.skip (.skip (.skip (.skip (.skip (.take .nil)))))))))))) (.c rfl rfl rfl (.skip (.skip (.skip (.skip (.skip (.skip (.skip (.skip (.skip (.skip (.skip (.skip (.take .nil))))))))))))) .n))))))))))))))<|zo 0 rfl rfl rfl rfl rfl sz51 rfl (.take (.take (.take (.take (.take (.take (.take (.take (.take (.take (.take (.take (.take .nil))))))))))))) .z<|zj<|zf<|zI ?_
 exact zD Try.results40 () trivial (zu 0 ty51 rfl rfl (.take (.take (.take (.take (.take (.take (.take (.take (.take (.take (.take (.take (.take .nil)))))))))))))) rfl (ho:=(.n:PickO _ _ _)) (.n:SelR _ _ _)
theorem zBc {u:Int} {v:Int}:Con Try.prog 52 [.int .i64 u,.int .i64 v] [] [] (Y:=Unit) (fun y=>True) (fun y=> .int .i64 (min u v)) (fun y=>[]) (fun y=>[]):=by
 refine zr Try.func52 rfl rfl rfl (fun c=> ?_)
 show RunC _ _ _ _ _ [(0,.int .i64 u),(1,.int .i64 v)] [] []
 refine zi<|zc<|r_pv rfl rfl (zd rfl)<|zj<|zf<|zi<|zi<|zc<|r_pv rfl rfl (zb rfl)<|r_pv rfl rfl (zb rfl)<|r_pv rfl rfl (zW rfl rfl)<|zj<|zf<|zC rfl (fun h1=> ?_) (fun h1=> ?_)
 ·
  refine zi<|zc<|r_pv rfl rfl (zb rfl)<|r_pv rfl rfl (zd rfl)<|zj<|zf<|zI<|zt ?_
  exact zD Try.results52 () trivial (zq rfl) (congrArg (Value.int .i64) (by omega)) (ho:=(.n:PickO _ _ _)) (.n:SelR _ _ _)
 ·
  refine zy<|zf<|zi<|zc<|r_pv rfl rfl (zb rfl)<|r_pv rfl rfl (zd rfl)<|zj<|zf<|zI ?_
  exact zD Try.results52 () trivial (zq rfl) (congrArg (Value.int .i64) (by omega)) (ho:=(.n:PickO _ _ _)) (.n:SelR _ _ _)
theorem zHb {u:Int} {v:Int}:Con Try.prog 53 [.int .i64 u,.int .i64 v] [] [] (Y:=Unit) (fun y=>True) (fun y=> .int .i64 (max u v)) (fun y=>[]) (fun y=>[]):=by
 refine zr Try.func53 rfl rfl rfl (fun c=> ?_)
 show RunC _ _ _ _ _ [(0,.int .i64 u),(1,.int .i64 v)] [] []
 refine zi<|zc<|r_pv rfl rfl (zd rfl)<|zj<|zf<|zi<|zi<|zc<|r_pv rfl rfl (zb rfl)<|r_pv rfl rfl (zb rfl)<|r_pv rfl rfl (zua rfl rfl)<|zj<|zf<|zC rfl (fun h1=> ?_) (fun h1=> ?_)
 ·
  refine zi<|zc<|r_pv rfl rfl (zb rfl)<|r_pv rfl rfl (zd rfl)<|zj<|zf<|zI<|zt ?_
  exact zD Try.results53 () trivial (zq rfl) (congrArg (Value.int .i64) (by omega)) (ho:=(.n:PickO _ _ _)) (.n:SelR _ _ _)
 ·
  refine zy<|zf<|zi<|zc<|r_pv rfl rfl (zb rfl)<|r_pv rfl rfl (zd rfl)<|zj<|zf<|zI ?_
  exact zD Try.results53 () trivial (zq rfl) (congrArg (Value.int .i64) (by omega)) (ho:=(.n:PickO _ _ _)) (.n:SelR _ _ _)
theorem zMc {ar1:Int} {le1:Int} {tp1:Int} {rt1:Int} {bt1:Int} {sx1:Int} {sy1:Int} {xx1:Int} {xy1:Int} {yy1:Int} {ms1:Int} {mx1:Int} {my1:Int} {ar2:Int} {le2:Int} {tp2:Int} {rt2:Int} {bt2:Int} {sx2:Int} {sy2:Int} {xx2:Int} {xy2:Int} {yy2:Int} {ms2:Int} {mx2:Int} {my2:Int} (hb1:Bl.bd ar1 le1 tp1 rt1 bt1 sx1 sy1 xx1 xy1 yy1 ms1 mx1 my1) (hb2:Bl.bd ar2 le2 tp2 rt2 bt2 sx2 sy2 xx2 xy2 yy2 ms2 mx2 my2):Con Try.prog 31 [.agg #[.int .i64 ar1,.int .i64 le1,.int .i64 tp1,.int .i64 rt1,.int .i64 bt1,.int .i64 sx1,.int .i64 sy1,.int .i64 xx1,.int .i64 xy1,.int .i64 yy1,.int .i64 ms1,.int .i64 mx1,.int .i64 my1],.agg #[.int .i64 ar2,.int .i64 le2,.int .i64 tp2,.int .i64 rt2,.int .i64 bt2,.int .i64 sx2,.int .i64 sy2,.int .i64 xx2,.int .i64 xy2,.int .i64 yy2,.int .i64 ms2,.int .i64 mx2,.int .i64 my2]] [] [] (Y:=Unit) (fun y=>True) (fun y=> .agg #[.int .i64 (ar1+ar2),.int .i64 (min le1 le2),.int .i64 (min tp1 tp2),.int .i64 (max rt1 rt2),.int .i64 (max bt1 bt2),.int .i64 (sx1+sx2),.int .i64 (sy1+sy2),.int .i64 (xx1+xx2),.int .i64 (xy1+xy2),.int .i64 (yy1+yy2),.int .i64 (ms1+ms2),.int .i64 (mx1+mx2),.int .i64 (my1+my2)]) (fun y=>[]) (fun y=>[]):=by
 refine zr Try.func31 rfl rfl rfl (fun c=> ?_)
 show RunC _ _ _ _ _ [(0,.agg #[.int .i64 ar1,.int .i64 le1,.int .i64 tp1,.int .i64 rt1,.int .i64 bt1,.int .i64 sx1,.int .i64 sy1,.int .i64 xx1,.int .i64 xy1,.int .i64 yy1,.int .i64 ms1,.int .i64 mx1,.int .i64 my1]),(1,.agg #[.int .i64 ar2,.int .i64 le2,.int .i64 tp2,.int .i64 rt2,.int .i64 bt2,.int .i64 sx2,.int .i64 sy2,.int .i64 xx2,.int .i64 xy2,.int .i64 yy2,.int .i64 ms2,.int .i64 mx2,.int .i64 my2])] [] []
 unfold Bl.bd at hb1 hb2
 refine zi<|zc<|zQ rfl rfl (zV rfl rfl) (fun b1=> ?_)
 refine zQ rfl rfl (zV rfl rfl) (fun b2=> ?_)
 refine zQ rfl rfl (zE zr51 rfl) (fun b3=> ?_)
 refine zj<|zf<|zi<|zia (OW:=[boxA b3 51 [.int .i64 0,.int .i64 0,.int .i64 0,.int .i64 0,.int .i64 0,.int .i64 0,.int .i64 0,.int .i64 0,.int .i64 0,.int .i64 0,.int .i64 0,.int .i64 0,.int .i64 0]]) (O:=[boxA b2 51 [.int .i64 ar2,.int .i64 le2,.int .i64 tp2,.int .i64 rt2,.int .i64 bt2,.int .i64 sx2,.int .i64 sy2,.int .i64 xx2,.int .i64 xy2,.int .i64 yy2,.int .i64 ms2,.int .i64 mx2,.int .i64 my2],boxA b1 51 [.int .i64 ar1,.int .i64 le1,.int .i64 tp1,.int .i64 rt1,.int .i64 bt1,.int .i64 sx1,.int .i64 sy1,.int .i64 xx1,.int .i64 xy1,.int .i64 yy1,.int .i64 ms1,.int .i64 mx1,.int .i64 my1]]) 66 mixed (.then .ret) (by kernel_rfl)<|d_pv 0 rfl rfl (by kernel_rfl) (by kernel_rfl) rfl rfl (zg Try.underlying51 rfl sz3 rfl rfl)<|d_uw 1 rfl rfl (by kernel_rfl) (by kernel_rfl) (by kernel_rfl) rfl rfl (ze 2 ty3 rfl rfl rfl)<|d_pv 2 rfl rfl (by kernel_rfl) (by kernel_rfl) rfl rfl (zg Try.underlying51 rfl sz3 rfl rfl)<|d_uw 3 rfl rfl (by kernel_rfl) (by kernel_rfl) (by kernel_rfl) rfl rfl (ze 1 ty3 rfl rfl rfl)<|d_pv 4 rfl rfl (by kernel_rfl) (by kernel_rfl) rfl rfl (zz (z:=(ar1+ar2)) rfl rfl (w64 (by omega)))<|d_pv 5 rfl rfl (by kernel_rfl) (by kernel_rfl) rfl rfl (zg Try.underlying51 rfl sz3 rfl rfl)<|d_uw 6 rfl rfl (by kernel_rfl) (by kernel_rfl) (by kernel_rfl) rfl rfl (ze 2 ty3 rfl rfl rfl)<|d_pv 7 rfl rfl (by kernel_rfl) (by kernel_rfl) rfl rfl (zg Try.underlying51 rfl sz3 rfl rfl)<|d_uw 8 rfl rfl (by kernel_rfl) (by kernel_rfl) (by kernel_rfl) rfl rfl (ze 1 ty3 rfl rfl rfl)<|d_pv 10 rfl rfl (by kernel_rfl) (by kernel_rfl) rfl rfl (zg Try.underlying51 rfl sz3 rfl rfl)<|d_uw 11 rfl rfl (by kernel_rfl) (by kernel_rfl) (by kernel_rfl) rfl rfl (ze 2 ty3 rfl rfl rfl)<|d_pv 12 rfl rfl (by kernel_rfl) (by kernel_rfl) rfl rfl (zg Try.underlying51 rfl sz3 rfl rfl)<|d_uw 13 rfl rfl (by kernel_rfl) (by kernel_rfl) (by kernel_rfl) rfl rfl (ze 1 ty3 rfl rfl rfl)<|d_pv 15 rfl rfl (by kernel_rfl) (by kernel_rfl) rfl rfl (zg Try.underlying51 rfl sz3 rfl rfl)<|d_uw 16 rfl rfl (by kernel_rfl) (by kernel_rfl) (by kernel_rfl) rfl rfl (ze 2 ty3 rfl rfl rfl)<|d_pv 17 rfl rfl (by kernel_rfl) (by kernel_rfl) rfl rfl (zg Try.underlying51 rfl sz3 rfl rfl)<|d_uw 18 rfl rfl (by kernel_rfl) (by kernel_rfl) (by kernel_rfl) rfl rfl (ze 1 ty3 rfl rfl rfl)<|d_pv 20 rfl rfl (by kernel_rfl) (by kernel_rfl) rfl rfl (zg Try.underlying51 rfl sz3 rfl rfl)<|d_uw 21 rfl rfl (by kernel_rfl) (by kernel_rfl) (by kernel_rfl) rfl rfl (ze 2 ty3 rfl rfl rfl)<|d_pv 22 rfl rfl (by kernel_rfl) (by kernel_rfl) rfl rfl (zg Try.underlying51 rfl sz3 rfl rfl)<|d_uw 23 rfl rfl (by kernel_rfl) (by kernel_rfl) (by kernel_rfl) rfl rfl (ze 1 ty3 rfl rfl rfl)<|d_pv 25 rfl rfl (by kernel_rfl) (by kernel_rfl) rfl rfl (zg Try.underlying51 rfl sz3 rfl rfl) ?_
 refine d_uw 26 rfl rfl (by kernel_rfl) (by kernel_rfl) (by kernel_rfl) rfl rfl (ze 2 ty3 rfl rfl rfl)<|d_pv 27 rfl rfl (by kernel_rfl) (by kernel_rfl) rfl rfl (zg Try.underlying51 rfl sz3 rfl rfl)<|d_uw 28 rfl rfl (by kernel_rfl) (by kernel_rfl) (by kernel_rfl) rfl rfl (ze 1 ty3 rfl rfl rfl)<|d_pv 29 rfl rfl (by kernel_rfl) (by kernel_rfl) rfl rfl (zz (z:=(sx1+sx2)) rfl rfl (w64 (by omega)))<|d_pv 30 rfl rfl (by kernel_rfl) (by kernel_rfl) rfl rfl (zg Try.underlying51 rfl sz3 rfl rfl)<|d_uw 31 rfl rfl (by kernel_rfl) (by kernel_rfl) (by kernel_rfl) rfl rfl (ze 2 ty3 rfl rfl rfl)<|d_pv 32 rfl rfl (by kernel_rfl) (by kernel_rfl) rfl rfl (zg Try.underlying51 rfl sz3 rfl rfl)<|d_uw 33 rfl rfl (by kernel_rfl) (by kernel_rfl) (by kernel_rfl) rfl rfl (ze 1 ty3 rfl rfl rfl)<|d_pv 34 rfl rfl (by kernel_rfl) (by kernel_rfl) rfl rfl (zz (z:=(sy1+sy2)) rfl rfl (w64 (by omega)))<|d_pv 35 rfl rfl (by kernel_rfl) (by kernel_rfl) rfl rfl (zg Try.underlying51 rfl sz3 rfl rfl)<|d_uw 36 rfl rfl (by kernel_rfl) (by kernel_rfl) (by kernel_rfl) rfl rfl (ze 2 ty3 rfl rfl rfl)<|d_pv 37 rfl rfl (by kernel_rfl) (by kernel_rfl) rfl rfl (zg Try.underlying51 rfl sz3 rfl rfl)<|d_uw 38 rfl rfl (by kernel_rfl) (by kernel_rfl) (by kernel_rfl) rfl rfl (ze 1 ty3 rfl rfl rfl)<|d_pv 39 rfl rfl (by kernel_rfl) (by kernel_rfl) rfl rfl (zz (z:=(xx1+xx2)) rfl rfl (w64 (by omega)))<|d_pv 40 rfl rfl (by kernel_rfl) (by kernel_rfl) rfl rfl (zg Try.underlying51 rfl sz3 rfl rfl)<|d_uw 41 rfl rfl (by kernel_rfl) (by kernel_rfl) (by kernel_rfl) rfl rfl (ze 2 ty3 rfl rfl rfl)<|d_pv 42 rfl rfl (by kernel_rfl) (by kernel_rfl) rfl rfl (zg Try.underlying51 rfl sz3 rfl rfl)<|d_uw 43 rfl rfl (by kernel_rfl) (by kernel_rfl) (by kernel_rfl) rfl rfl (ze 1 ty3 rfl rfl rfl)<|d_pv 44 rfl rfl (by kernel_rfl) (by kernel_rfl) rfl rfl (zz (z:=(xy1+xy2)) rfl rfl (w64 (by omega)))<|d_pv 45 rfl rfl (by kernel_rfl) (by kernel_rfl) rfl rfl (zg Try.underlying51 rfl sz3 rfl rfl)<|d_uw 46 rfl rfl (by kernel_rfl) (by kernel_rfl) (by kernel_rfl) rfl rfl (ze 2 ty3 rfl rfl rfl)<|d_pv 47 rfl rfl (by kernel_rfl) (by kernel_rfl) rfl rfl (zg Try.underlying51 rfl sz3 rfl rfl)<|d_uw 48 rfl rfl (by kernel_rfl) (by kernel_rfl) (by kernel_rfl) rfl rfl (ze 1 ty3 rfl rfl rfl)<|d_pv 49 rfl rfl (by kernel_rfl) (by kernel_rfl) rfl rfl (zz (z:=(yy1+yy2)) rfl rfl (w64 (by omega)))<|d_pv 50 rfl rfl (by kernel_rfl) (by kernel_rfl) rfl rfl (zg Try.underlying51 rfl sz3 rfl rfl)<|d_uw 51 rfl rfl (by kernel_rfl) (by kernel_rfl) (by kernel_rfl) rfl rfl (ze 2 ty3 rfl rfl rfl)<|d_pv 52 rfl rfl (by kernel_rfl) (by kernel_rfl) rfl rfl (zg Try.underlying51 rfl sz3 rfl rfl)<|d_uw 53 rfl rfl (by kernel_rfl) (by kernel_rfl) (by kernel_rfl) rfl rfl (ze 1 ty3 rfl rfl rfl) ?_
 refine d_pv 54 rfl rfl (by kernel_rfl) (by kernel_rfl) rfl rfl (zz (z:=(ms1+ms2)) rfl rfl (w64 (by omega)))<|d_pv 55 rfl rfl (by kernel_rfl) (by kernel_rfl) rfl rfl (zg Try.underlying51 rfl sz3 rfl rfl)<|d_uw 56 rfl rfl (by kernel_rfl) (by kernel_rfl) (by kernel_rfl) rfl rfl (ze 2 ty3 rfl rfl rfl)<|d_pv 57 rfl rfl (by kernel_rfl) (by kernel_rfl) rfl rfl (zg Try.underlying51 rfl sz3 rfl rfl)<|d_uw 58 rfl rfl (by kernel_rfl) (by kernel_rfl) (by kernel_rfl) rfl rfl (ze 1 ty3 rfl rfl rfl)<|d_pv 59 rfl rfl (by kernel_rfl) (by kernel_rfl) rfl rfl (zz (z:=(mx1+mx2)) rfl rfl (w64 (by omega)))<|d_pv 60 rfl rfl (by kernel_rfl) (by kernel_rfl) rfl rfl (zg Try.underlying51 rfl sz3 rfl rfl)<|d_uw 61 rfl rfl (by kernel_rfl) (by kernel_rfl) (by kernel_rfl) rfl rfl (ze 2 ty3 rfl rfl rfl)<|d_pv 62 rfl rfl (by kernel_rfl) (by kernel_rfl) rfl rfl (zg Try.underlying51 rfl sz3 rfl rfl)<|d_uw 63 rfl rfl (by kernel_rfl) (by kernel_rfl) (by kernel_rfl) rfl rfl (ze 1 ty3 rfl rfl rfl)<|d_pv 64 rfl rfl (by kernel_rfl) (by kernel_rfl) rfl rfl (zz (z:=(my1+my2)) rfl rfl (w64 (by omega)))<|zT 9 (by kernel_rfl) (zVa rfl rfl rfl rfl (.c rfl (.c rfl .n)) ce52 (zBc (u:=le1) (v:=le2)) (.n) ?_)
 refine zT 14 (by kernel_rfl) (zVa rfl rfl rfl rfl (.c rfl (.c rfl .n)) ce52 (zBc (u:=tp1) (v:=tp2)) (.n) ?_)
 refine zT 19 (by kernel_rfl) (zVa rfl rfl rfl rfl (.c rfl (.c rfl .n)) ce53 (zHb (u:=rt1) (v:=rt2)) (.n) ?_)
 refine zT 24 (by kernel_rfl) (zVa rfl rfl rfl rfl (.c rfl (.c rfl .n)) ce53 (zHb (u:=bt1) (v:=bt2)) (.n) ?_)
 refine d_pv 65 rfl rfl (by kernel_rfl) (by kernel_rfl) rfl rfl (zG zr51 rfl Try.underlying51 (.c sz3 (.c sz3 (.c sz3 (.c sz3 (.c sz3 (.c sz3 (.c sz3 (.c sz3 (.c sz3 (.c sz3 (.c sz3 (.c sz3 (.c sz3 .n))))))))))))) (.c rfl (.c rfl (.c rfl (.c rfl (.c rfl (.c rfl (.c rfl (.c rfl (.c rfl (.c rfl (.c rfl (.c rfl (.c rfl .n))))))))))))) (.c rfl rfl rfl (.take .nil) (.c rfl rfl rfl (.skip (.take .nil)) (.c rfl rfl rfl (.skip (.skip (.take .nil))) (.c rfl rfl rfl (.skip (.skip (.skip (.take .nil)))) (.c rfl rfl rfl (.skip (.skip (.skip (.skip (.take .nil))))) (.c rfl rfl rfl (.skip (.skip (.skip (.skip (.skip (.take .nil)))))) (.c rfl rfl rfl (.skip (.skip (.skip (.skip (.skip (.skip (.take .nil))))))) (.c rfl rfl rfl (.skip (.skip (.skip (.skip (.skip (.skip (.skip (.take .nil)))))))) (.c rfl rfl rfl (.skip (.skip (.skip (.skip (.skip (.skip (.skip (.skip (.take .nil))))))))) (.c rfl rfl rfl (.skip (.skip (.skip (.skip (.skip (.skip (.skip (.skip (.skip (.take .nil)))))))))) (.c rfl rfl rfl (.skip (.skip (.skip (.skip (.skip (.skip (.skip (.skip (.skip (.skip (.take .nil))))))))))) (.c rfl rfl rfl (.skip (.skip (.skip (.skip (.skip (.skip (.skip (.skip (.skip (.skip (.skip (.take .nil)))))))))))) (.c rfl rfl rfl (.skip (.skip (.skip (.skip (.skip (.skip (.skip (.skip (.skip (.skip (.skip (.skip (.take .nil))))))))))))) .n))))))))))))))<|zT 66 (by kernel_rfl) (zJ (by kernel_rfl) rfl rfl rfl rfl rfl sz51 rfl (.take (.take (.take (.take (.take (.take (.take (.take (.take (.take (.take (.take (.take .nil))))))))))))) ?_)
 refine zfa (by kernel_rfl)<|zf<|zI ?_
 exact zD Try.results31 () trivial (zu 0 ty51 rfl rfl (.take (.take (.take (.take (.take (.take (.take (.take (.take (.take (.take (.take (.take .nil)))))))))))))) rfl (ho:=(.n:PickO _ _ _)) (.n:SelR _ _ _)
end Go.Proofs.Ytefbbhiaalcjfaa.Sp
namespace Go.Proofs.Ytefbbhiaalcjfaa.Sp
open Go
set_option linter.unusedVariables false
set_option maxRecDepth 100000
set_option maxHeartbeats 1000000
theorem zWd {ar1:Int} {le1:Int} {tp1:Int} {rt1:Int} {bt1:Int} {sx1:Int} {sy1:Int} {xx1:Int} {xy1:Int} {yy1:Int} {ms1:Int} {mx1:Int} {my1:Int} {ar2:Int} {le2:Int} {tp2:Int} {rt2:Int} {bt2:Int} {sx2:Int} {sy2:Int} {xx2:Int} {xy2:Int} {yy2:Int} {ms2:Int} {mx2:Int} {my2:Int}:Con Try.prog 26 [.agg #[.int .i64 ar1,.int .i64 le1,.int .i64 tp1,.int .i64 rt1,.int .i64 bt1,.int .i64 sx1,.int .i64 sy1,.int .i64 xx1,.int .i64 xy1,.int .i64 yy1,.int .i64 ms1,.int .i64 mx1,.int .i64 my1],.agg #[.int .i64 ar2,.int .i64 le2,.int .i64 tp2,.int .i64 rt2,.int .i64 bt2,.int .i64 sx2,.int .i64 sy2,.int .i64 xx2,.int .i64 xy2,.int .i64 yy2,.int .i64 ms2,.int .i64 mx2,.int .i64 my2]] [] [] (Y:=Unit) (fun y=>True) (fun y=> .tuple #[.agg #[.int .i64 (if (Bl.ok ar1 le1 tp1 rt1 bt1 sx1 sy1 xx1 xy1 yy1 ms1 mx1 my1∧Bl.ok ar2 le2 tp2 rt2 bt2 sx2 sy2 xx2 xy2 yy2 ms2 mx2 my2∧ar1+ar2≤4096) then (ar1+ar2) else 0),.int .i64 (if (Bl.ok ar1 le1 tp1 rt1 bt1 sx1 sy1 xx1 xy1 yy1 ms1 mx1 my1∧Bl.ok ar2 le2 tp2 rt2 bt2 sx2 sy2 xx2 xy2 yy2 ms2 mx2 my2∧ar1+ar2≤4096) then (min le1 le2) else 0),.int .i64 (if (Bl.ok ar1 le1 tp1 rt1 bt1 sx1 sy1 xx1 xy1 yy1 ms1 mx1 my1∧Bl.ok ar2 le2 tp2 rt2 bt2 sx2 sy2 xx2 xy2 yy2 ms2 mx2 my2∧ar1+ar2≤4096) then (min tp1 tp2) else 0),.int .i64 (if (Bl.ok ar1 le1 tp1 rt1 bt1 sx1 sy1 xx1 xy1 yy1 ms1 mx1 my1∧Bl.ok ar2 le2 tp2 rt2 bt2 sx2 sy2 xx2 xy2 yy2 ms2 mx2 my2∧ar1+ar2≤4096) then (max rt1 rt2) else 0),.int .i64 (if (Bl.ok ar1 le1 tp1 rt1 bt1 sx1 sy1 xx1 xy1 yy1 ms1 mx1 my1∧Bl.ok ar2 le2 tp2 rt2 bt2 sx2 sy2 xx2 xy2 yy2 ms2 mx2 my2∧ar1+ar2≤4096) then (max bt1 bt2) else 0),.int .i64 (if (Bl.ok ar1 le1 tp1 rt1 bt1 sx1 sy1 xx1 xy1 yy1 ms1 mx1 my1∧Bl.ok ar2 le2 tp2 rt2 bt2 sx2 sy2 xx2 xy2 yy2 ms2 mx2 my2∧ar1+ar2≤4096) then (sx1+sx2) else 0),.int .i64 (if (Bl.ok ar1 le1 tp1 rt1 bt1 sx1 sy1 xx1 xy1 yy1 ms1 mx1 my1∧Bl.ok ar2 le2 tp2 rt2 bt2 sx2 sy2 xx2 xy2 yy2 ms2 mx2 my2∧ar1+ar2≤4096) then (sy1+sy2) else 0),.int .i64 (if (Bl.ok ar1 le1 tp1 rt1 bt1 sx1 sy1 xx1 xy1 yy1 ms1 mx1 my1∧Bl.ok ar2 le2 tp2 rt2 bt2 sx2 sy2 xx2 xy2 yy2 ms2 mx2 my2∧ar1+ar2≤4096) then (xx1+xx2) else 0),.int .i64 (if (Bl.ok ar1 le1 tp1 rt1 bt1 sx1 sy1 xx1 xy1 yy1 ms1 mx1 my1∧Bl.ok ar2 le2 tp2 rt2 bt2 sx2 sy2 xx2 xy2 yy2 ms2 mx2 my2∧ar1+ar2≤4096) then (xy1+xy2) else 0),.int .i64 (if (Bl.ok ar1 le1 tp1 rt1 bt1 sx1 sy1 xx1 xy1 yy1 ms1 mx1 my1∧Bl.ok ar2 le2 tp2 rt2 bt2 sx2 sy2 xx2 xy2 yy2 ms2 mx2 my2∧ar1+ar2≤4096) then (yy1+yy2) else 0),.int .i64 (if (Bl.ok ar1 le1 tp1 rt1 bt1 sx1 sy1 xx1 xy1 yy1 ms1 mx1 my1∧Bl.ok ar2 le2 tp2 rt2 bt2 sx2 sy2 xx2 xy2 yy2 ms2 mx2 my2∧ar1+ar2≤4096) then (ms1+ms2) else 0),.int .i64 (if (Bl.ok ar1 le1 tp1 rt1 bt1 sx1 sy1 xx1 xy1 yy1 ms1 mx1 my1∧Bl.ok ar2 le2 tp2 rt2 bt2 sx2 sy2 xx2 xy2 yy2 ms2 mx2 my2∧ar1+ar2≤4096) then (mx1+mx2) else 0),.int .i64 (if (Bl.ok ar1 le1 tp1 rt1 bt1 sx1 sy1 xx1 xy1 yy1 ms1 mx1 my1∧Bl.ok ar2 le2 tp2 rt2 bt2 sx2 sy2 xx2 xy2 yy2 ms2 mx2 my2∧ar1+ar2≤4096) then (my1+my2) else 0)],.int .i64 (if Bl.ok ar1 le1 tp1 rt1 bt1 sx1 sy1 xx1 xy1 yy1 ms1 mx1 my1∧Bl.ok ar2 le2 tp2 rt2 bt2 sx2 sy2 xx2 xy2 yy2 ms2 mx2 my2 then (if ar1+ar2≤4096 then 0 else 3) else 1)]) (fun y=>[]) (fun y=>[]):=by
 refine zr Try.func26 rfl rfl rfl (fun c=> ?_)
 show RunC _ _ _ _ _ [(0,.agg #[.int .i64 ar1,.int .i64 le1,.int .i64 tp1,.int .i64 rt1,.int .i64 bt1,.int .i64 sx1,.int .i64 sy1,.int .i64 xx1,.int .i64 xy1,.int .i64 yy1,.int .i64 ms1,.int .i64 mx1,.int .i64 my1]),(1,.agg #[.int .i64 ar2,.int .i64 le2,.int .i64 tp2,.int .i64 rt2,.int .i64 bt2,.int .i64 sx2,.int .i64 sy2,.int .i64 xx2,.int .i64 xy2,.int .i64 yy2,.int .i64 ms2,.int .i64 mx2,.int .i64 my2])] [] []
 refine zi<|zc<|zQ rfl rfl (zV rfl rfl) (fun b1=> ?_)
 refine zQ rfl rfl (zV rfl rfl) (fun b2=> ?_)
 refine zQ rfl rfl (zE zr51 rfl) (fun b3=> ?_)
 refine r_pv rfl rfl (zd rfl)<|zj<|zf<|zi<|zRa (X:=Unit) (fun x=>True) (fun x=>[(13,.bool (decide (¬(Bl.ok ar1 le1 tp1 rt1 bt1 sx1 sy1 xx1 xy1 yy1 ms1 mx1 my1∧Bl.ok ar2 le2 tp2 rt2 bt2 sx2 sy2 xx2 xy2 yy2 ms2 mx2 my2)))),(5,.int .i64 0),(4,.pointer (some ⟨b3,0,none⟩)),(3,.pointer (some ⟨b2,0,none⟩)),(2,.pointer (some ⟨b1,0,none⟩))]) (fun x=>[boxA b3 51 [.int .i64 0,.int .i64 0,.int .i64 0,.int .i64 0,.int .i64 0,.int .i64 0,.int .i64 0,.int .i64 0,.int .i64 0,.int .i64 0,.int .i64 0,.int .i64 0,.int .i64 0],boxA b2 51 [.int .i64 ar2,.int .i64 le2,.int .i64 tp2,.int .i64 rt2,.int .i64 bt2,.int .i64 sx2,.int .i64 sy2,.int .i64 xx2,.int .i64 xy2,.int .i64 yy2,.int .i64 ms2,.int .i64 mx2,.int .i64 my2],boxA b1 51 [.int .i64 ar1,.int .i64 le1,.int .i64 tp1,.int .i64 rt1,.int .i64 bt1,.int .i64 sx1,.int .i64 sy1,.int .i64 xx1,.int .i64 xy1,.int .i64 yy1,.int .i64 ms1,.int .i64 mx1,.int .i64 my1]]) (fun x=>[]) ?_ ?_
 ·
  refine zc<|r_u rfl rfl (zh 2 ty51 rfl rfl (.take (.take (.take (.take (.take (.take (.take (.take (.take (.take (.take (.take (.take .nil))))))))))))))<|zM rfl rfl (.c rfl .n) ce28 (zxb (ar:=ar1) (le:=le1) (tp:=tp1) (rt:=rt1) (bt:=bt1) (sx:=sx1) (sy:=sy1) (xx:=xx1) (xy:=xy1) (yy:=yy1) (ms:=ms1) (mx:=mx1) (my:=my1)) (.n)<|r_pv rfl rfl (zCa rfl rfl)<|zR rfl rfl (zb rfl) (fun h9=> ?_) (fun h9=> ?_)
  ·
   refine za rfl rfl<|za rfl rfl<|za rfl rfl<|r_pv rfl rfl (zl rfl rfl)<|zj ?_
   exact zca () (show True from by first|trivial|omega|simp_all) ((.e rfl (congrArg Value.bool (by exact Eq.symm (decide_eq_true (show ¬(Bl.ok ar1 le1 tp1 rt1 bt1 sx1 sy1 xx1 xy1 yy1 ms1 mx1 my1∧Bl.ok ar2 le2 tp2 rt2 bt2 sx2 sy2 xx2 xy2 yy2 ms2 mx2 my2) from fun k=>h9 (if_pos k.1))))) (.of rfl)):SubM _ _) (ho:=((.of [0,0,0] rfl):PickO _ _ _)) (.n:SelR _ _ _)
  ·
   refine r_u rfl rfl (zh 1 ty51 rfl rfl (.take (.take (.take (.take (.take (.take (.take (.take (.take (.take (.take (.take (.take .nil))))))))))))))<|zM rfl rfl (.c rfl .n) ce28 (zxb (ar:=ar2) (le:=le2) (tp:=tp2) (rt:=rt2) (bt:=bt2) (sx:=sx2) (sy:=sy2) (xx:=xx2) (xy:=xy2) (yy:=yy2) (ms:=ms2) (mx:=mx2) (my:=my2)) (.n)<|r_pv rfl rfl (zCa rfl rfl)<|r_pv rfl rfl (zl rfl rfl)<|zj ?_
   exact zca () (show True from by first|trivial|omega|simp_all) ((.e rfl (congrArg Value.bool (by exact decide_eq_decide.2 ⟨fun h k=>h (if_pos k.2),fun h e=>h ⟨Bl.c0.1 (Decidable.not_not.1 h9),Bl.c0.1 e⟩⟩)) (.of rfl)):SubM _ _) (ho:=((.of [0,0,0] rfl):PickO _ _ _)) (.n:SelR _ _ _)
 ·
  rintro ⟨⟩ -
  try dsimp only
  refine zC rfl (fun hc=> ?_) (fun hc=> ?_)
  ·
   refine zi<|zc<|r_pv rfl rfl (zG zr51 rfl Try.underlying51 (.c sz3 (.c sz3 (.c sz3 (.c sz3 (.c sz3 (.c sz3 (.c sz3 (.c sz3 (.c sz3 (.c sz3 (.c sz3 (.c sz3 (.c sz3 .n))))))))))))) .n .n)<|zo 0 rfl rfl rfl rfl rfl sz51 rfl (.take (.take (.take (.take (.take (.take (.take (.take (.take (.take (.take (.take (.take .nil))))))))))))) .z<|r_pv rfl rfl (zd rfl)<|zj<|zf<|zI<|zt ?_
   exact zta Try.results26 () trivial (zu 0 ty51 rfl rfl (.take (.take (.take (.take (.take (.take (.take (.take (.take (.take (.take (.take (.take .nil)))))))))))))) (zq rfl) (by simp only [if_neg hc,if_neg (show ¬(Bl.ok ar1 le1 tp1 rt1 bt1 sx1 sy1 xx1 xy1 yy1 ms1 mx1 my1∧Bl.ok ar2 le2 tp2 rt2 bt2 sx2 sy2 xx2 xy2 yy2 ms2 mx2 my2∧ar1+ar2≤4096) from fun k=>hc ⟨k.1,k.2.1⟩)]) (ho:=(.n:PickO _ _ _)) (.n:SelR _ _ _)
  ·
   have hG:=Decidable.not_not.1 hc
   have hb1:=Bl.ok_bd hG.1
   have hb2:=Bl.ok_bd hG.2
   have hd1:=hb1
   have hd2:=hb2
   unfold Bl.bd at hd1 hd2
   refine zy<|zf<|zi<|zi<|zc<|r_pv rfl rfl (zg Try.underlying51 rfl sz3 rfl rfl)<|r_u rfl rfl (ze 2 ty3 rfl rfl rfl)<|r_pv rfl rfl (zg Try.underlying51 rfl sz3 rfl rfl)<|r_u rfl rfl (ze 1 ty3 rfl rfl rfl)<|r_pv rfl rfl (zz (z:=(ar1+ar2)) rfl rfl (w64 (by omega)))<|r_pv rfl rfl (zua rfl rfl)<|zj<|zf<|zC rfl (fun h4=> ?_) (fun h4=> ?_)
   ·
    refine zi<|zc<|r_pv rfl rfl (zG zr51 rfl Try.underlying51 (.c sz3 (.c sz3 (.c sz3 (.c sz3 (.c sz3 (.c sz3 (.c sz3 (.c sz3 (.c sz3 (.c sz3 (.c sz3 (.c sz3 (.c sz3 .n))))))))))))) .n .n)<|zo 0 rfl rfl rfl rfl rfl sz51 rfl (.take (.take (.take (.take (.take (.take (.take (.take (.take (.take (.take (.take (.take .nil))))))))))))) .z<|r_pv rfl rfl (zd rfl)<|zj<|zf<|zI<|zt ?_
    exact zta Try.results26 () trivial (zu 0 ty51 rfl rfl (.take (.take (.take (.take (.take (.take (.take (.take (.take (.take (.take (.take (.take .nil)))))))))))))) (zq rfl) (by simp only [if_pos hG,if_neg (show ¬(Bl.ok ar1 le1 tp1 rt1 bt1 sx1 sy1 xx1 xy1 yy1 ms1 mx1 my1∧Bl.ok ar2 le2 tp2 rt2 bt2 sx2 sy2 xx2 xy2 yy2 ms2 mx2 my2∧ar1+ar2≤4096) from fun k=>absurd k.2.2 (by omega)),if_neg (show ¬ar1+ar2≤4096 by omega)]) (ho:=(.n:PickO _ _ _)) (.n:SelR _ _ _)
   ·
    refine zy<|zf<|zi<|zc<|r_u rfl rfl (zh 2 ty51 rfl rfl (.take (.take (.take (.take (.take (.take (.take (.take (.take (.take (.take (.take (.take .nil))))))))))))))<|r_u rfl rfl (zh 1 ty51 rfl rfl (.take (.take (.take (.take (.take (.take (.take (.take (.take (.take (.take (.take (.take .nil))))))))))))))<|zM rfl rfl (.c rfl (.c rfl .n)) ce40 (zOb (ar1:=ar1) (le1:=le1) (tp1:=tp1) (rt1:=rt1) (bt1:=bt1) (sx1:=sx1) (sy1:=sy1) (xx1:=xx1) (xy1:=xy1) (yy1:=yy1) (ms1:=ms1) (mx1:=mx1) (my1:=my1) (ar2:=ar2) (le2:=le2) (tp2:=tp2) (rt2:=rt2) (bt2:=bt2) (sx2:=sx2) (sy2:=sy2) (xx2:=xx2) (xy2:=xy2) (yy2:=yy2) (ms2:=ms2) (mx2:=mx2) (my2:=my2) (hb1:=by first|rfl|assumption|omega) (hb2:=by first|rfl|assumption|omega)) (.n)<|zo 0 rfl rfl rfl rfl rfl sz51 rfl (.take (.take (.take (.take (.take (.take (.take (.take (.take (.take (.take (.take (.take .nil))))))))))))) .z<|r_pv rfl rfl (zd rfl)<|zj<|zf<|zI ?_
    exact zta Try.results26 () trivial (zu 0 ty51 rfl rfl (.take (.take (.take (.take (.take (.take (.take (.take (.take (.take (.take (.take (.take .nil)))))))))))))) (zq rfl) (by simp only [if_pos hG,if_pos (show (Bl.ok ar1 le1 tp1 rt1 bt1 sx1 sy1 xx1 xy1 yy1 ms1 mx1 my1∧Bl.ok ar2 le2 tp2 rt2 bt2 sx2 sy2 xx2 xy2 yy2 ms2 mx2 my2∧ar1+ar2≤4096) from ⟨hG.1,hG.2,by omega⟩),if_pos (show ar1+ar2≤4096 by omega)]) (ho:=(.n:PickO _ _ _)) (.n:SelR _ _ _)
theorem zeb {ar1:Int} {le1:Int} {tp1:Int} {rt1:Int} {bt1:Int} {sx1:Int} {sy1:Int} {xx1:Int} {xy1:Int} {yy1:Int} {ms1:Int} {mx1:Int} {my1:Int} {ar2:Int} {le2:Int} {tp2:Int} {rt2:Int} {bt2:Int} {sx2:Int} {sy2:Int} {xx2:Int} {xy2:Int} {yy2:Int} {ms2:Int} {mx2:Int} {my2:Int} (hG:(Bl.ok ar1 le1 tp1 rt1 bt1 sx1 sy1 xx1 xy1 yy1 ms1 mx1 my1∧Bl.ok ar2 le2 tp2 rt2 bt2 sx2 sy2 xx2 xy2 yy2 ms2 mx2 my2∧ar1+ar2≤4096)):Con Try.prog 26 [.agg #[.int .i64 (ar1),.int .i64 (le1),.int .i64 (tp1),.int .i64 (rt1),.int .i64 (bt1),.int .i64 (sx1),.int .i64 (sy1),.int .i64 (xx1),.int .i64 (xy1),.int .i64 (yy1),.int .i64 (ms1),.int .i64 (mx1),.int .i64 (my1)],.agg #[.int .i64 (ar2),.int .i64 (le2),.int .i64 (tp2),.int .i64 (rt2),.int .i64 (bt2),.int .i64 (sx2),.int .i64 (sy2),.int .i64 (xx2),.int .i64 (xy2),.int .i64 (yy2),.int .i64 (ms2),.int .i64 (mx2),.int .i64 (my2)]] [] [] (Y:=Unit) (fun y=>True) (fun y=> .tuple #[.agg #[.int .i64 ((ar1+ar2)),.int .i64 ((min le1 le2)),.int .i64 ((min tp1 tp2)),.int .i64 ((max rt1 rt2)),.int .i64 ((max bt1 bt2)),.int .i64 ((sx1+sx2)),.int .i64 ((sy1+sy2)),.int .i64 ((xx1+xx2)),.int .i64 ((xy1+xy2)),.int .i64 ((yy1+yy2)),.int .i64 ((ms1+ms2)),.int .i64 ((mx1+mx2)),.int .i64 ((my1+my2))],.int .i64 (0)]) (fun y=>[]) (fun y=>[]):=by
  have h:= @zWd ar1 le1 tp1 rt1 bt1 sx1 sy1 xx1 xy1 yy1 ms1 mx1 my1 ar2 le2 tp2 rt2 bt2 sx2 sy2 xx2 xy2 yy2 ms2 mx2 my2
  simp only [if_pos hG,if_pos (show Bl.ok ar1 le1 tp1 rt1 bt1 sx1 sy1 xx1 xy1 yy1 ms1 mx1 my1∧Bl.ok ar2 le2 tp2 rt2 bt2 sx2 sy2 xx2 xy2 yy2 ms2 mx2 my2 from ⟨hG.1,hG.2.1⟩),if_pos hG.2.2] at h
  exact h
end Go.Proofs.Ytefbbhiaalcjfaa.Sp
namespace Go.Proofs.Ytefbbhiaalcjfaa.Sp
open Go
set_option linter.unusedVariables false
set_option maxRecDepth 100000
set_option maxHeartbeats 1000000
theorem zEa {s:Bool} {p:Option Addr} {n:Nat} {cap:Nat} {l:List Int} (hn:l.length=n) (ho:Big.okL l) (hln:n≤4398046511104):Con Try.prog 68 [.bool s,.slice p n cap] [] [slF (rI .u32) p cap l] (Y:=(Option Addr)×Nat) (fun y=>True) (fun y=> .agg #[.bool (decide ((Big.sg s (Big.valL l))<0)),.slice (y.1) ((Big.digs ((Big.sg s (Big.valL l)).natAbs)).length) (y.2)]) (fun y=>[]) (fun y=>[slF (rI .u32) (y.1) (y.2) (Big.digs ((Big.sg s (Big.valL l)).natAbs))]):=by
 refine zr Try.func68 rfl rfl rfl (fun c=> ?_)
 show RunC _ _ _ _ _ [(0,.bool s),(1,.slice p n cap)] [] [slF (rI .u32) p cap l]
 refine zea 0 rfl (fun hL0=> ?_)
 refine zi<|zc<|zQ rfl rfl (zE zr43 rfl) (fun b1=> ?_)
 refine zj<|zf<|zi<|zc<|r_pv rfl rfl (zb rfl)<|r_pv rfl rfl (zK Try.underlying41 rfl)<|r_pv rfl rfl (zd rfl)<|zj<|zf<|zi<|zB<|zna (X:=Nat) (fun x:Nat=>x≤n∧Big.trimL (l.take x)=Big.trimL l) (fun x=>[(5,.int .i64 ((x:Nat):Int)),(4,.pointer (some ⟨b1,0,none⟩)),(0,.bool s),(1,.slice p n cap)]) (fun x=>[boxA b1 43 [.bool false,.slice none 0 0]]) (fun x=>[slF (rI .u32) p cap l]) (fun x:Nat=>x) n (show n≤n∧Big.trimL (l.take n)=Big.trimL l from by exact ⟨by omega,by rw [List.take_of_length_le (by omega)]⟩) ((.of rfl):SubM _ _) (ho:=((.c (i:=0) rfl .n):PickO _ _ _)) ((.c (j:=0) rfl .n):SelR _ _ _) ?_
 rintro k hI
 replace hI:k≤n∧Big.trimL (l.take k)=Big.trimL l:=hI
 try dsimp only
 obtain ⟨hk,hT⟩:=hI
 refine zi<|zRa (X:=Unit) (fun x=>True) (fun x=>[(17,.bool (decide (0<k∧l.getD (k - 1) 0=0))),(5,.int .i64 ((k:Nat):Int)),(4,.pointer (some ⟨b1,0,none⟩)),(0,.bool s),(1,.slice p n cap)]) (fun x=>[boxA b1 43 [.bool false,.slice none 0 0]]) (fun x=>[slF (rI .u32) p cap l]) ?_ ?_
 ·
  refine zc<|r_pv rfl rfl (zb rfl)<|r_pv rfl rfl (zua rfl rfl)<|zR rfl rfl (zb rfl) (fun h2=> ?_) (fun h2=> ?_)
  ·
   refine r_pv rfl rfl (zb rfl)<|r_pv rfl rfl (zb rfl)<|r_pv rfl rfl (zda (z:=(((k:Nat):Int) - 1)) rfl rfl (w64 (by omega)))<|zO (x0:=(l.getD ((((k:Nat):Int) - 1).toNat) 0)) 0 ((((k:Nat):Int) - 1).toNat) rfl Try.underlying41 sz101 rfl rfl rfl (by first|rfl|assumption|(simp_all;done)|omega) rfl (by omega) (gD (d:=0) (by omega)) (fun b3 o4 hok5=> ?_)
   replace hok5:=zw.1 hok5
   refine r_u rfl rfl (zn (j:=0) 0 ty101 rfl rfl rfl rfl)<|r_pv rfl rfl (zAa rfl rfl)<|r_pv rfl rfl (zl rfl rfl)<|zj ?_
   exact zca () (show True from by first|trivial|omega|simp_all) ((.e rfl (congrArg Value.bool (by have h1:0<k:=(by omega);have h2:((k:Int) - 1).toNat=k - 1:=(by omega);simp [h1,h2])) (.of rfl)):SubM _ _) (ho:=((.c (i:=0) rfl .n):PickO _ _ _)) ((.c (j:=1) rfl .n):SelR _ _ _)
  ·
   refine za rfl rfl<|za rfl rfl<|za rfl rfl<|za rfl rfl<|za rfl rfl<|za rfl rfl<|r_pv rfl rfl (zl rfl rfl)<|zj ?_
   exact zca () (show True from by first|trivial|omega|simp_all) ((.e rfl (congrArg Value.bool (by have h1:¬0<k:=(by omega);simp [h1])) (.of rfl)):SubM _ _) (ho:=((.c (i:=0) rfl .n):PickO _ _ _)) ((.c (j:=0) rfl .n):SelR _ _ _)
 ·
  rintro ⟨⟩ -
  try dsimp only
  refine zC rfl (fun hc=> ?_) (fun hc=> ?_)
  ·
   refine zy<|zf<|zB<|zc<|r_pv rfl rfl (zb rfl)<|r_pv rfl rfl (zda (z:=(((k - 1):Nat):Int)) rfl rfl (w64 (by omega)))<|r_pv rfl rfl (zd rfl)<|zj<|zS<|zZ (k - 1) (show (k - 1)≤n∧Big.trimL (l.take (k - 1))=Big.trimL l from by exact ⟨by omega,by rw [← hT,Big.trim_go l hc.1 (by omega) hc.2]⟩) (by show k - 1<k;omega) ((.e rfl (by first|rfl|(congr 1;omega)|simp_all) (.of rfl)):SubM _ _) (ho:=((.c (i:=0) rfl .n):PickO _ _ _)) ((.c (j:=0) rfl .n):SelR _ _ _)
  ·
   have htr:l.take k=Big.digs (Big.sg s (Big.valL l)).natAbs:=by rw [Big.sg_abs (Big.valL_nonneg ho),←Big.digs_valL ho,←hT];exact (Big.trim_stop l (by omega) hc).symm
   have hlt:(l.take k).length=k:=by rw [List.length_take];omega
   have hsg:=Big.made_sign (s:=s) ho htr hlt
   refine zha<|zm<|zm<|zv<|zf<|zi<|zc<|r_pv rfl rfl (zb rfl)<|r_pv_b rfl rfl (zb rfl) (fun hs=> ?_) (fun hs=> ?_)
   ·
    refine r_pv rfl rfl (zb rfl)<|r_pv rfl rfl (zua rfl rfl)<|r_pv rfl rfl (zl rfl rfl)<|zxa rfl rfl (zsa (rI .u32) Try.underlying41 inf101) (fun b6 _=> ?_)
    refine r_pv rfl rfl (zb rfl)<|r_pv rfl rfl (zb rfl)<|r_pv rfl rfl (zYa (hi:=k) Try.underlying41 sz101 rfl (.s rfl) (.inr ⟨_,rfl⟩) (by omega))<|zwc (zac 0 rfl k (by omega)) (fun _ _=> ?_)
    refine zya 0 rfl rfl rfl (zva 0 rfl Try.underlying41 inf101 (by decide) rfl rfl (by first|rfl|assumption|(simp_all;done)|omega) rfl (by first|rfl|assumption|(simp_all;done)|omega) (by omega) (by omega)) (fun _=> .z) ?_
    rintro ⟨p7,c8⟩ -
    dsimp only [List.append_eq,List.nil_append,List.cons_append]
    refine r_pv rfl rfl (zG zr43 rfl Try.underlying43 (.c sz4 (.c sz41 .n)) (.c rfl (.c rfl .n)) (.c rfl rfl rfl (.take .nil) (.c rfl rfl rfl (.skip (.take .nil)) .n)))<|zo 1 rfl rfl rfl rfl rfl sz43 rfl (.take (.take .nil)) (.s .z)<|zj<|zf<|zI ?_
    subst hs
    refine zTa 0 rfl .z ?_
    exact zD Try.results68 (p7,c8) trivial (zu 1 ty43 rfl rfl (.take (.take .nil))) (by rw [hsg,←htr,hlt,Nat.zero_add] <;> simp) (ho:=(.n:PickO _ _ _)) ((.e (j:=0) rfl (by rw [htr] <;> rfl) .n):SelR _ _ _)
   ·
    refine za rfl rfl<|za rfl rfl<|r_pv rfl rfl (zl rfl rfl)<|zxa rfl rfl (zsa (rI .u32) Try.underlying41 inf101) (fun b9 _=> ?_)
    refine r_pv rfl rfl (zb rfl)<|r_pv rfl rfl (zb rfl)<|r_pv rfl rfl (zYa (hi:=k) Try.underlying41 sz101 rfl (.s rfl) (.inr ⟨_,rfl⟩) (by omega))<|zwc (zac 0 rfl k (by omega)) (fun _ _=> ?_)
    refine zya 0 rfl rfl rfl (zva 0 rfl Try.underlying41 inf101 (by decide) rfl rfl (by first|rfl|assumption|(simp_all;done)|omega) rfl (by first|rfl|assumption|(simp_all;done)|omega) (by omega) (by omega)) (fun _=> .z) ?_
    rintro ⟨p10,c11⟩ -
    dsimp only [List.append_eq,List.nil_append,List.cons_append]
    refine r_pv rfl rfl (zG zr43 rfl Try.underlying43 (.c sz4 (.c sz41 .n)) (.c rfl (.c rfl .n)) (.c rfl rfl rfl (.take .nil) (.c rfl rfl rfl (.skip (.take .nil)) .n)))<|zo 1 rfl rfl rfl rfl rfl sz43 rfl (.take (.take .nil)) (.s .z)<|zj<|zf<|zI ?_
    subst hs
    refine zTa 0 rfl .z ?_
    exact zD Try.results68 (p10,c11) trivial (zu 1 ty43 rfl rfl (.take (.take .nil))) (by rw [hsg,←htr,hlt,Nat.zero_add] <;> simp) (ho:=(.n:PickO _ _ _)) ((.e (j:=0) rfl (by rw [htr] <;> rfl) .n):SelR _ _ _)
theorem zab {s:Bool} {a:Nat} {p:Option Addr} {cap:Nat} (hln:(Big.digs (a)).length≤4398046511104):Con Try.prog 68 [.bool (s),.slice (p) ((Big.digs (a)).length) (cap)] [] [slF (rI .u32) (p) (cap) (Big.digs (a))] (Y:=(Option Addr)×(Nat)) (fun y=>True) (fun y=> .agg #[.bool (decide ((Big.sg s (a:Int))<0)),.slice (y.1) ((Big.digs ((Big.sg s (a:Int)).natAbs)).length) (y.2)]) (fun y=>[]) (fun y=>[slF (rI .u32) (y.1) (y.2) (Big.digs ((Big.sg s (a:Int)).natAbs))]):=by
  have h:= @zEa s p (Big.digs a).length cap (Big.digs a) rfl (Big.digs_ok a) hln
  rw [Big.valL_digs] at h
  exact h
theorem zQa {p:Option Addr} {n:Nat} {cap:Nat} {l:List Int} {i:Nat} (hn:l.length=n) (hi:i≤4611686018427387904):Con Try.prog 85 [.slice p n cap,.int .i64 ((i:Nat):Int)] [] [slF (rI .u32) p cap l] (Y:=Unit) (fun y=>True) (fun y=> .int .u64 (l.getD i 0)) (fun y=>[]) (fun y=>[]):=by
 refine zr Try.func85 rfl rfl rfl (fun c=> ?_)
 show RunC _ _ _ _ _ [(0,.slice p n cap),(1,.int .i64 ((i:Nat):Int))] [] [slF (rI .u32) p cap l]
 refine zea 0 rfl (fun hL0=> ?_)
 refine zi<|zc<|r_pv rfl rfl (zd rfl)<|zj<|zf<|zi<|zi<|zc<|r_pv rfl rfl (zb rfl)<|r_pv rfl rfl (zb rfl)<|r_pv rfl rfl (zK Try.underlying41 rfl)<|r_pv rfl rfl (zW rfl rfl)<|zj<|zf<|zC rfl (fun h1=> ?_) (fun h1=> ?_)
 ·
  refine zi<|zc<|r_pv rfl rfl (zb rfl)<|r_pv rfl rfl (zb rfl)<|zO (x0:=(l.getD i 0)) 0 i rfl Try.underlying41 sz101 rfl rfl rfl (by first|rfl|assumption|(simp_all;done)|omega) rfl rfl (gD (d:=0) (by omega)) (fun b2 o3 hok4=> ?_)
  replace hok4:=zw.1 hok4
  refine r_u rfl rfl (zn (j:=0) 0 ty101 rfl rfl rfl rfl)<|r_pv rfl rfl (zx (z:=(l.getD i 0)) rfl (by rw [Try.underlying101];rfl) Try.underlying100 (wu64 (by omega)))<|r_pv rfl rfl (zd rfl)<|zj<|zf<|zI<|zt ?_
  exact zD Try.results85 () trivial (zq rfl) rfl (ho:=(.n:PickO _ _ _)) (.n:SelR _ _ _)
 ·
  refine zy<|zf<|zi<|zc<|r_pv rfl rfl (zd rfl)<|zj<|zf<|zI ?_
  exact zD Try.results85 () trivial (zq rfl) (by rw [show l.getD i 0=0 by simp [List.getD,List.getElem?_eq_none (show l.length≤i by omega)]]) (ho:=(.n:PickO _ _ _)) (.n:SelR _ _ _)
theorem zPb {s:Bool} {p:Option Addr} {n:Nat} {cap:Nat} {l:List Int} (hn:l.length=n):Con Try.prog 78 [.agg #[.bool s,.slice p n cap]] [] [slF (rI .u32) p cap l] (Y:=Unit) (fun y=>True) (fun y=> .bool (decide (Big.canon s l))) (fun y=>[]) (fun y=>[]):=by
 refine zr Try.func78 rfl rfl rfl (fun c=> ?_)
 show RunC _ _ _ _ _ [(0,.agg #[.bool s,.slice p n cap])] [] [slF (rI .u32) p cap l]
 refine zea 0 rfl (fun hL0=> ?_)
 refine zi<|zc<|zQ rfl rfl (zV rfl rfl) (fun b1=> ?_)
 refine r_pv rfl rfl (zd rfl)<|zj<|zf<|zi<|zc<|r_pv rfl rfl (zg Try.underlying43 rfl sz41 rfl rfl)<|r_u rfl rfl (ze 0 ty41 rfl rfl rfl)<|r_pv rfl rfl (zK Try.underlying41 rfl)<|r_pv rfl rfl (zd rfl)<|zj<|zf<|zi<|zi<|zc<|r_pv rfl rfl (zd rfl)<|zj<|zf<|zB<|zna (X:=Nat) (fun x:Nat=>x≤n∧∀j,j<x→l.getD j 0<1000000000) (fun x=>[(4,.int .i64 ((x:Nat):Int)),(3,.int .i64 ((n:Nat):Int)),(1,.pointer (some ⟨b1,0,none⟩))]) (fun x=>[boxA b1 43 [.bool s,.slice p n cap]]) (fun x=>[slF (rI .u32) p cap l]) (fun x:Nat=>n - x) 0 (show 0≤n∧∀j,j<0→l.getD j 0<1000000000 from by exact ⟨by omega,fun j h=>by omega⟩) ((.e rfl (by first|rfl|(congr 1;omega)|simp_all) (.c rfl (.c rfl .n))):SubM _ _) (ho:=((.c (i:=0) rfl .n):PickO _ _ _)) ((.c (j:=0) rfl .n):SelR _ _ _) ?_
 rintro i hI
 replace hI:i≤n∧∀j,j<i→l.getD j 0<1000000000:=hI
 try dsimp only
 obtain ⟨hi,hall⟩:=hI
 refine zi<|zi<|zc<|r_pv rfl rfl (zb rfl)<|r_pv rfl rfl (zb rfl)<|r_pv rfl rfl (zW rfl rfl)<|zj<|zf<|zC rfl (fun h2=> ?_) (fun h2=> ?_)
 ·
  refine zy<|zf<|zi<|zB<|zi<|zc<|r_pv rfl rfl (zg Try.underlying43 rfl sz41 rfl rfl)<|r_u rfl rfl (ze 0 ty41 rfl rfl rfl)<|r_pv rfl rfl (zb rfl)<|zO (x0:=(l.getD i 0)) 0 i rfl Try.underlying41 sz101 rfl rfl rfl (by first|rfl|assumption|(simp_all;done)|omega) rfl rfl (gD (d:=0) (by omega)) (fun b3 o4 hok5=> ?_)
  replace hok5:=zw.1 hok5
  refine r_u rfl rfl (zn (j:=0) 0 ty101 rfl rfl rfl rfl)<|r_pv rfl rfl (zGa rfl rfl)<|zj<|zf<|zC rfl (fun hb=> ?_) (fun hb=> ?_)
  ·
   refine zi<|zc<|r_pv rfl rfl (zd rfl)<|zj<|zf<|zI<|zba<|zt<|zt<|zba<|zt ?_
   exact zD Try.results78 () trivial (zq rfl) (congrArg Value.bool (decide_eq_false (fun h=>((Big.canon_more (by omega)).1 h).2 ⟨_,Big.getD_mem (by omega),hb⟩))) (ho:=(.n:PickO _ _ _)) (.n:SelR _ _ _)
  ·
   refine zy<|zS<|zf<|zc<|r_pv rfl rfl (zb rfl)<|r_pv rfl rfl (zz (z:=(((i+1):Nat):Int)) rfl rfl (w64 (by omega)))<|r_pv rfl rfl (zd rfl)<|zj<|zZ (i+1) (show (i+1)≤n∧∀j,j<(i+1)→l.getD j 0<1000000000 from by refine ⟨by omega,fun j hj=> ?_⟩;by_cases e:j=i;subst e;omega;exact hall j (by omega)) (by show n - (i+1)<n - i;omega) ((.of rfl):SubM _ _) (ho:=((.c (i:=0) rfl .n):PickO _ _ _)) ((.c (j:=1) rfl .n):SelR _ _ _)
 ·
  refine zha<|zm<|zm<|zv<|zf<|zi<|zi<|zc<|r_pv rfl rfl (zb rfl)<|r_pv rfl rfl (zAa rfl rfl)<|zj<|zf<|zC rfl (fun h0=> ?_) (fun h0=> ?_)
  ·
   refine zi<|zc<|r_pv rfl rfl (zg Try.underlying43 rfl sz4 rfl rfl)<|r_u rfl rfl (ze 0 ty4 rfl rfl rfl)<|r_pv rfl rfl (zDb rfl)<|r_pv rfl rfl (zd rfl)<|zj<|zf<|zI<|zt ?_
   exact zD Try.results78 () trivial (zq rfl) (congrArg Value.bool (by have:l.length=0:=(by omega);cases s <;> simp [Big.canon,this])) (ho:=(.n:PickO _ _ _)) (.n:SelR _ _ _)
  ·
   refine zy<|zf<|zi<|zc<|r_pv rfl rfl (zg Try.underlying43 rfl sz41 rfl rfl)<|r_u rfl rfl (ze 0 ty41 rfl rfl rfl)<|r_pv rfl rfl (zb rfl)<|r_pv rfl rfl (zda (z:=(((n:Nat):Int) - 1)) rfl rfl (w64 (by omega)))<|zO (x0:=(l.getD ((((n:Nat):Int) - 1).toNat) 0)) 0 ((((n:Nat):Int) - 1).toNat) rfl Try.underlying41 sz101 rfl rfl rfl (by first|rfl|assumption|(simp_all;done)|omega) rfl (by omega) (gD (d:=0) (by omega)) (fun b6 o7 hok8=> ?_)
   replace hok8:=zw.1 hok8
   refine r_u rfl rfl (zn (j:=0) 0 ty101 rfl rfl rfl rfl)<|r_pv rfl rfl (zCa rfl rfl)<|r_pv rfl rfl (zd rfl)<|zj<|zf<|zI ?_
   exact zD Try.results78 () trivial (zq rfl) (congrArg Value.bool (decide_eq_decide.2 (by rw [Big.canon_more (by omega),hn];have e:((n:Int) - 1).toNat=n - 1:=(by omega);rw [e];exact ⟨fun h=>h.1,fun h=>⟨h,fun ⟨g,hg,hb⟩=>by obtain ⟨j,hj,e⟩:=Big.mem_getD hg;have:=hall j (by omega);omega⟩⟩))) (ho:=(.n:PickO _ _ _)) (.n:SelR _ _ _)
theorem zKa {s:Bool} {p:Option Addr} {n:Nat} {cap:Nat} {l:List Int} (hn:l.length=n) (hln:n≤1099511627776):Con Try.prog 67 [.agg #[.bool s,.slice p n cap]] [] [slF (rI .u32) p cap l] (Y:=(Option Addr)×Nat) (fun y=>True) (fun y=> .agg #[.bool (decide ((Big.raw s l)<0)),.slice (y.1) ((Big.digs ((Big.raw s l).natAbs)).length) (y.2)]) (fun y=>[]) (fun y=>[slF (rI .u32) (y.1) (y.2) (Big.digs ((Big.raw s l).natAbs))]):=by
 refine zr Try.func67 rfl rfl rfl (fun c=> ?_)
 show RunC _ _ _ _ _ [(0,.agg #[.bool s,.slice p n cap])] [] [slF (rI .u32) p cap l]
 refine zea 0 rfl (fun hL0=> ?_)
 refine zdb 0 rfl (fun hE0=> ?_)
 have hnn:Big.nn l:=fun g hg=>(zw.1 (hE0 g hg)).1
 refine zi<|zc<|zQ rfl rfl (zV rfl rfl) (fun b1=> ?_)
 refine zQ rfl rfl (zE zr43 rfl) (fun b2=> ?_)
 refine zj<|zf<|zi<|zi<|zc<|r_u rfl rfl (zh 1 ty43 rfl rfl (.take (.take .nil)))<|zM rfl rfl (.c rfl .n) ce78 (zPb (s:=s) (p:=p) (n:=n) (cap:=cap) (l:=l) (hn:=by assumption)) (.c (j:=0) rfl .n)<|r_pv rfl rfl (zkb rfl)<|zj<|zf<|zC rfl (fun hc=> ?_) (fun hc=> ?_)
 ·
  refine zi<|zc<|r_pv rfl rfl (zG zr43 rfl Try.underlying43 (.c sz4 (.c sz41 .n)) .n .n)<|zo 0 rfl rfl rfl rfl rfl sz43 rfl (.take (.take .nil)) .z<|zj<|zf<|zI<|zt ?_
  have hz:Big.raw s l=0:=by unfold Big.raw;rw [if_neg hc]
  refine zhc (rI .u32) ?_
  exact zD Try.results67 (none,0) trivial (zu 0 ty43 rfl rfl (.take (.take .nil))) (by rw [hz];rfl) (ho:=(.n:PickO _ _ _)) ((.e (j:=0) rfl (by rw [hz];rfl) .n):SelR _ _ _)
 ·
  refine zy<|zf<|zi<|zia (OW:=[boxA b2 43 [.bool false,.slice none 0 0]]) (O:=[boxA b1 43 [.bool s,.slice p n cap]]) 5 mixed (.then .ret) (by kernel_rfl)<|d_pv 0 rfl rfl (by kernel_rfl) (by kernel_rfl) rfl rfl (zg Try.underlying43 rfl sz4 rfl rfl)<|d_u 1 rfl rfl (by kernel_rfl) (by kernel_rfl) rfl rfl (ze 0 ty4 rfl rfl rfl)<|d_pv 3 rfl rfl (by kernel_rfl) (by kernel_rfl) rfl rfl (zg Try.underlying43 rfl sz41 rfl rfl)<|d_uw 4 rfl rfl (by kernel_rfl) (by kernel_rfl) (by kernel_rfl) rfl rfl (ze 1 ty41 rfl rfl rfl)<|zT 2 (by kernel_rfl) (zic rfl rfl rfl rfl (zsa (rI .u32) Try.underlying41 inf101) (fun b3 _=> ?_))
  refine zT 5 (by kernel_rfl) (zke (A':=fun v:Option Addr×Nat=>rowA 101 (rI .u32) v.1 v.2 (([])++l)) (by kernel_rfl) rfl rfl rfl (zva 0 rfl Try.underlying41 inf101 (by decide) rfl rfl (by first|rfl|assumption|(simp_all;done)|omega) rfl (by first|rfl|assumption|(simp_all;done)|omega) (by omega) (by omega)) ?_)
  rintro ⟨p4,c5⟩ -
  dsimp only [List.append_eq,List.nil_append,List.cons_append]
  refine d_pv 6 rfl rfl (by kernel_rfl) (by kernel_rfl) rfl rfl (zG zr43 rfl Try.underlying43 (.c sz4 (.c sz41 .n)) (.c rfl (.c rfl .n)) (.c rfl rfl rfl (.take .nil) (.c rfl rfl rfl (.skip (.take .nil)) .n)))<|zOa (zoa (i:=1) rfl)<|zT 7 (by kernel_rfl) (zJ (by kernel_rfl) rfl rfl rfl rfl rfl sz43 rfl (.take (.take .nil)) ?_)
  refine zfa (by kernel_rfl)<|zf<|zI ?_
  have hcc:Big.canon s l:=Decidable.not_not.1 hc
  have hd:Big.digs (Big.raw s l).natAbs=l:=by rw [Big.raw_digs hnn,if_pos hcc]
  have hs:=Big.raw_sign hnn hcc
  refine zTa 1 rfl (.s .z) ?_
  exact zD Try.results67 (p4,c5) trivial (zu 0 ty43 rfl rfl (.take (.take .nil))) (by rw [hs,hd,hn,Nat.zero_add]) (ho:=(.n:PickO _ _ _)) ((.e (j:=0) rfl (by rw [hd] <;> rfl) .n):SelR _ _ _)
theorem zkc {z:Int} {p:Option Addr} {cap:Nat} (hln:Big.ln z≤1099511627776):Con Try.prog 67 [.agg #[.bool (decide ((z)<0)),.slice (p) ((Big.digs ((z).natAbs)).length) (cap)]] [] [slF (rI .u32) (p) (cap) (Big.digs ((z).natAbs))] (Y:=(Option Addr)×(Nat)) (fun y=>True) (fun y=> .agg #[.bool (decide ((z)<0)),.slice (y.1) ((Big.digs ((z).natAbs)).length) (y.2)]) (fun y=>[]) (fun y=>[slF (rI .u32) (y.1) (y.2) (Big.digs ((z).natAbs))]):=by
  have h:= @zKa (decide ((z)<0)) p (Big.digs (z).natAbs).length cap (Big.digs (z).natAbs) rfl hln
  rw [Big.raw_big] at h
  exact h
theorem zBe {z:Int} (hz: -9223372036854775808≤z∧z≤9223372036854775807):Con Try.prog 72 [.int .i64 z] [] [] (Y:=(Option Addr)×Nat) (fun y=>True) (fun y=> .agg #[.bool (decide (z<0)),.slice (y.1) ((Big.digs ((z).natAbs)).length) (y.2)]) (fun y=>[]) (fun y=>[slF (rI .u32) (y.1) (y.2) (Big.digs ((z).natAbs))]):=by
 refine zr Try.func72 rfl rfl rfl (fun c=> ?_)
 show RunC _ _ _ _ _ [(0,.int .i64 z)] [] []
 refine zi<|zc<|zQ rfl rfl (zE zr43 rfl) (fun b1=> ?_)
 refine zj<|zf<|zi<|zc<|r_pv rfl rfl (zb rfl)<|r_pv rfl rfl (zx (z:=(z%18446744073709551616)) rfl (by rw [Try.underlying3];rfl) Try.underlying100 (wu64m (by omega)))<|r_pv rfl rfl (zd rfl)<|zj<|zf<|zRa (X:=Unit) (fun x=>True) (fun x=>[(3,.int .u64 ((z.natAbs:Nat):Int)),(2,.pointer (some ⟨b1,0,none⟩)),(0,.int .i64 z)]) (fun x=>[boxA b1 43 [.bool false,.slice none 0 0]]) (fun x=>[]) ?_ ?_
 ·
  refine zi<|zc<|r_pv rfl rfl (zb rfl)<|r_pv rfl rfl (zW rfl rfl)<|zj<|zf<|zC rfl (fun hs=> ?_) (fun hs=> ?_)
  ·
   refine zc<|r_pv rfl rfl (zb rfl)<|r_pv rfl rfl (zz (z:=(z+1)) rfl rfl (w64 (by omega)))<|r_pv rfl rfl (zqf (z:=(-(z+1))) rfl (w64 (by omega)))<|r_pv rfl rfl (zx (z:=(-(z+1))) rfl (by rw [Try.underlying3];rfl) Try.underlying100 (wu64 (by omega)))<|r_pv rfl rfl (zz (z:=((z.natAbs:Nat):Int)) rfl rfl (wu64 (by omega)))<|r_pv rfl rfl (zd rfl)<|zj ?_
   exact zca () (show True from by first|trivial|omega|simp_all) ((.of rfl):SubM _ _) (ho:=((.c (i:=0) rfl .n):PickO _ _ _)) (.n:SelR _ _ _)
  ·
   have e2:((z%18446744073709551616):Int)=((z.natAbs:Nat):Int):=by omega
   rw [e2]
   refine zy ?_
   exact zca () (show True from by first|trivial|omega|simp_all) ((.of rfl):SubM _ _) (ho:=((.c (i:=0) rfl .n):PickO _ _ _)) (.n:SelR _ _ _)
 ·
  rintro ⟨⟩ -
  try dsimp only
  refine zi<|zc<|zxa rfl rfl (zsa (rI .u32) Try.underlying41 inf101) (fun b3 _=> ?_)
  refine r_pv rfl rfl (zd rfl)<|zj<|zf<|zi<|zB<|zna (X:=Nat×(Option Addr)×Nat×(List Int)) (fun x:Nat×(Option Addr)×Nat×(List Int)=>x.1≤z.natAbs∧x.2.2.2++Big.digs x.1=Big.digs z.natAbs) (fun x=>[(4,.slice (x.2.1) (x.2.2.2.length) (x.2.2.1)),(3,.int .u64 ((x.1:Nat):Int)),(2,.pointer (some ⟨b1,0,none⟩)),(0,.int .i64 z)]) (fun x=>[rowA 101 (rI .u32) (x.2.1) (x.2.2.1) (x.2.2.2),boxA b1 43 [.bool false,.slice none 0 0]]) (fun x=>[]) (fun x:Nat×(Option Addr)×Nat×(List Int)=>x.1) (z.natAbs,some ⟨b3,0,none⟩,0,[]) (show z.natAbs≤z.natAbs∧([])++Big.digs z.natAbs=Big.digs z.natAbs from by exact ⟨Nat.le_refl _,rfl⟩) ((.e rfl (by first|rfl|(congr 1;omega)|simp_all) (.of rfl)):SubM _ _) (ho:=((.of [0,0] rfl):PickO _ _ _)) (.n:SelR _ _ _) ?_
  rintro ⟨m,p,c,os⟩ hI
  replace hI:m≤z.natAbs∧os++Big.digs m=Big.digs z.natAbs:=hI
  try dsimp only
  obtain ⟨hnn,hos⟩:=hI
  have hlen0:os.length+(Big.digs m).length≤3:=by have:=congrArg List.length hos;rw [List.length_append] at this;have:=Big.zye (show z.natAbs<18446744073709551616 by omega);omega
  refine zi<|zi<|zc<|r_pv rfl rfl (zb rfl)<|r_pv rfl rfl (zua rfl rfl)<|zj<|zf<|zC rfl (fun h4=> ?_) (fun h4=> ?_)
  ·
   refine zy<|zf<|zB<|zi<|zc<|r_pv rfl rfl (zb rfl)<|r_pv rfl rfl (zb rfl)<|r_pv rfl rfl (zFa (z:=(((m%1000000000):Nat):Int)) rfl rfl (by omega) (remN (by omega) (by omega)))<|r_pv rfl rfl (zx (z:=(((m%1000000000):Nat):Int)) rfl (by rw [Try.underlying100];rfl) Try.underlying101 (wu32 (by omega)))<|zxa rfl rfl (zL (enc:=fun z:Int=>[.int .u32 z]) (ok:=InK .u32) (h1:=fun _=>rfl) (h2:=fun _=>rfl) (k:=1) Try.underlying41 inf101 rfl (by decide) (by decide) (by decide) (.c (x:=(((m%1000000000):Nat):Int)) rfl rfl (fun _ _=>by exact zw.2 (by omega)) .n)) (fun b5 _=> ?_)
   refine zja 0 rfl .z<|zya 1 rfl rfl rfl (zva 0 rfl Try.underlying41 inf101 (by decide) rfl rfl (by first|rfl|assumption|(simp_all;done)|omega) rfl (by first|rfl|assumption|(simp_all;done)|omega) (by omega) (by omega)) (fun _=>(.s .z)) ?_
   rintro ⟨p6,c7⟩ -
   dsimp only [List.append_eq,List.nil_append,List.cons_append]
   refine r_pv rfl rfl (zd rfl)<|zj<|zf<|zc<|r_pv rfl rfl (zb rfl)<|r_pv rfl rfl (zHa (z:=(((m / 1000000000):Nat):Int)) rfl rfl (by omega) (by rw [quoN (z:=(((m / 1000000000):Nat):Int)) (by omega) (by omega)];exact wu64 (by omega)))<|r_pv rfl rfl (zd rfl)<|zj<|zS<|zZ ((m / 1000000000),p6,c7,os++[((m%1000000000:Nat):Int)]) (show (m / 1000000000)≤z.natAbs∧(os++[((m%1000000000:Nat):Int)])++Big.digs (m / 1000000000)=Big.digs z.natAbs from by exact ⟨by omega,Big.split_step (by omega) hos⟩) (by show m / 1000000000<m;omega) ((.e rfl (by simp) (.of rfl)):SubM _ _) (ho:=((.e (i:=1) rfl (by first|rfl|(congr 1;omega)|simp_all) (.c (i:=1) rfl .n)):PickO _ _ _)) (.n:SelR _ _ _)
  ·
   have hm0:m=0:=by omega
   subst hm0
   have hd:os=Big.digs z.natAbs:=by simpa [Big.digs_zero] using hos
   have hok:Big.okL os:=by rw [hd];exact Big.digs_ok _
   have hlen:os.length≤3:=by rw [hd];exact Big.zye (by omega)
   have hsg:Big.sg (decide (z<0)) (Big.valL os)=z:=by rw [hd,Big.valL_digs];exact Big.sg_big z
   refine zha<|zm<|zm<|zv<|zf<|zi<|zc<|r_pv rfl rfl (zb rfl)<|r_pv rfl rfl (zW rfl rfl)<|r_pv rfl rfl (zb rfl)<|zja 0 rfl .z<|zA rfl rfl (.c rfl (.c rfl .n)) ce68 (zEa (s:=decide (z<0)) (p:=p) (n:=os.length) (cap:=c) (l:=os) (hn:=by first|rfl|omega) (ho:=by exact hok) (hln:=by first|rfl|omega)) (.c (j:=0) rfl .n) ?_
   rintro ⟨p28,c29⟩ -
   dsimp only [List.append_eq,List.nil_append,List.cons_append]
   refine zo 1 rfl rfl rfl rfl rfl sz43 rfl (.take (.take .nil)) (.s .z)<|zj<|zf<|zI ?_
   exact zD Try.results72 (p28,c29) trivial (zu 1 ty43 rfl rfl (.take (.take .nil))) (by rw [hsg]) (ho:=(.n:PickO _ _ _)) ((.e (j:=0) rfl (by rw [hsg]) .n):SelR _ _ _)
theorem zCe {a:Nat} {b:Nat} {p1:Option Addr} {c1:Nat} {p2:Option Addr} {c2:Nat} (hb1:(Big.digs a).length≤1099511627776) (hb2:(Big.digs b).length≤1099511627776):Con Try.prog 69 [.slice p1 ((Big.digs a).length) c1,.slice p2 ((Big.digs b).length) c2] [] [slF (rI .u32) p1 c1 (Big.digs a),slF (rI .u32) p2 c2 (Big.digs b)] (Y:=(Option Addr)×Nat) (fun y=>True) (fun y=> .slice (y.1) ((Big.digs (a+b)).length) (y.2)) (fun y=>[]) (fun y=>[slF (rI .u32) (y.1) (y.2) (Big.digs (a+b))]):=by
 refine zr Try.func69 rfl rfl rfl (fun c=> ?_)
 show RunC _ _ _ _ _ [(0,.slice p1 ((Big.digs a).length) c1),(1,.slice p2 ((Big.digs b).length) c2)] [] [slF (rI .u32) p1 c1 (Big.digs a),slF (rI .u32) p2 c2 (Big.digs b)]
 refine zea 0 rfl (fun hL0=> ?_)
 refine zea 1 rfl (fun hL1=> ?_)
 refine zi<|zc<|r_pv rfl rfl (zd rfl)<|zj<|zf<|zi<|zc<|zxa rfl rfl (zsa (rI .u32) Try.underlying41 inf101) (fun b1 _=> ?_)
 refine r_pv rfl rfl (zd rfl)<|zj<|zf<|zi<|zc<|r_pv rfl rfl (zd rfl)<|zj<|zf<|zi<|zi<|zc<|r_pv rfl rfl (zd rfl)<|zj<|zf<|zB<|zna (X:=Nat×(Option Addr)×Nat×(List Int)×Int) (fun x:Nat×(Option Addr)×Nat×(List Int)×Int=>x.1≤max (Big.digs a).length (Big.digs b).length∧x.2.2.2.1.length=x.1∧0≤x.2.2.2.2∧x.2.2.2.2≤1∧Big.okL x.2.2.2.1∧Big.valL x.2.2.2.1+Big.pw x.1*x.2.2.2.2=Big.valL ((Big.digs a).take x.1)+Big.valL ((Big.digs b).take x.1)) (fun x=>[(6,.int .u64 (x.2.2.2.2)),(5,.slice (x.2.1) (x.2.2.2.1.length) (x.2.2.1)),(7,.int .i64 ((x.1:Nat):Int)),(4,.slice none 0 0),(0,.slice p1 ((Big.digs a).length) c1),(1,.slice p2 ((Big.digs b).length) c2)]) (fun x=>[rowA 101 (rI .u32) (x.2.1) (x.2.2.1) (x.2.2.2.1)]) (fun x=>[slF (rI .u32) p1 c1 (Big.digs a),slF (rI .u32) p2 c2 (Big.digs b)]) (fun x:Nat×(Option Addr)×Nat×(List Int)×Int=>max (Big.digs a).length (Big.digs b).length - x.1) (0,some ⟨b1,0,none⟩,0,[],0) (show 0≤max (Big.digs a).length (Big.digs b).length∧([]).length=0∧0≤0∧0≤1∧Big.okL ([])∧Big.valL ([])+Big.pw 0*0=Big.valL ((Big.digs a).take 0)+Big.valL ((Big.digs b).take 0) from by exact ⟨by omega,rfl,by decide,by decide,Big.okL_nil,by simp [Big.valL]⟩) ((.c rfl (.e rfl (by first|rfl|(congr 1;omega)|simp_all) (.e rfl (by first|rfl|(congr 1;omega)|simp_all) (.of rfl)))):SubM _ _) (ho:=((.c (i:=0) rfl .n):PickO _ _ _)) ((.of [0,1] rfl):SelR _ _ _) ?_
 rintro ⟨i,p,c,os,cy⟩ hI
 replace hI:i≤max (Big.digs a).length (Big.digs b).length∧os.length=i∧0≤cy∧cy≤1∧Big.okL os∧Big.valL os+Big.pw i*cy=Big.valL ((Big.digs a).take i)+Big.valL ((Big.digs b).take i):=hI
 try dsimp only
 obtain ⟨hi,hol,hc0,hc1,hok,hv⟩:=hI
 have hg1:=Big.okL_getD (Big.digs_ok a) i
 have hg2:=Big.okL_getD (Big.digs_ok b) i
 refine zi<|zRa (X:=Unit) (fun x=>True) (fun x=>[(19,.bool (decide (i<(Big.digs a).length∨i<(Big.digs b).length))),(6,.int .u64 cy),(5,.slice p (os.length) c),(7,.int .i64 ((i:Nat):Int)),(4,.slice none 0 0),(0,.slice p1 ((Big.digs a).length) c1),(1,.slice p2 ((Big.digs b).length) c2)]) (fun x=>[rowA 101 (rI .u32) p c os]) (fun x=>[slF (rI .u32) p1 c1 (Big.digs a),slF (rI .u32) p2 c2 (Big.digs b)]) ?_ ?_
 ·
  refine zc<|r_pv rfl rfl (zb rfl)<|r_pv rfl rfl (zb rfl)<|r_pv rfl rfl (zK Try.underlying41 rfl)<|r_pv rfl rfl (zW rfl rfl)<|zR rfl rfl (zb rfl) (fun h2=> ?_) (fun h2=> ?_)
  ·
   refine za rfl rfl<|za rfl rfl<|za rfl rfl<|za rfl rfl<|r_pv rfl rfl (zl rfl rfl)<|zj ?_
   exact zca () (show True from by first|trivial|omega|simp_all) ((.e rfl (congrArg Value.bool (by simp;omega)) (.of rfl)):SubM _ _) (ho:=((.c (i:=0) rfl .n):PickO _ _ _)) ((.of [0,1] rfl):SelR _ _ _)
  ·
   refine r_pv rfl rfl (zb rfl)<|r_pv rfl rfl (zb rfl)<|r_pv rfl rfl (zK Try.underlying41 rfl)<|r_pv rfl rfl (zW rfl rfl)<|r_pv rfl rfl (zl rfl rfl)<|zj ?_
   exact zca () (show True from by first|trivial|omega|simp_all) ((.e rfl (congrArg Value.bool (by simp;omega)) (.of rfl)):SubM _ _) (ho:=((.c (i:=0) rfl .n):PickO _ _ _)) ((.of [0,1] rfl):SelR _ _ _)
 ·
  rintro ⟨⟩ -
  try dsimp only
  refine zC rfl (fun hc=> ?_) (fun hc=> ?_)
  ·
   refine zy<|zf<|zi<|zB<|zi<|zc<|r_pv rfl rfl (zb rfl)<|r_pv rfl rfl (zb rfl)<|zM rfl rfl (.c rfl (.c rfl .n)) ce85 (zQa (p:=p1) (n:=(Big.digs a).length) (cap:=c1) (l:=Big.digs a) (i:=i) (hn:=by first|rfl|assumption|omega|(simp;done)|(simp;omega)|(simp_all;done)) (hi:=by first|rfl|assumption|omega|(simp;done)|(simp;omega)|(simp_all;done))) (.c (j:=0) rfl .n)<|r_pv rfl rfl (zb rfl)<|r_pv rfl rfl (zb rfl)<|zM rfl rfl (.c rfl (.c rfl .n)) ce85 (zQa (p:=p2) (n:=(Big.digs b).length) (cap:=c2) (l:=Big.digs b) (i:=i) (hn:=by first|rfl|assumption|omega|(simp;done)|(simp;omega)|(simp_all;done)) (hi:=by first|rfl|assumption|omega|(simp;done)|(simp;omega)|(simp_all;done))) (.c (j:=1) rfl .n)<|r_pv rfl rfl (zz (z:=((Big.digs a).getD i 0+(Big.digs b).getD i 0)) rfl rfl (wu64 (by omega)))<|r_pv rfl rfl (zb rfl)<|r_pv rfl rfl (zz (z:=(((Big.digs a).getD i 0+(Big.digs b).getD i 0)+cy)) rfl rfl (wu64 (by omega)))<|r_pv rfl rfl (zd rfl)<|zj<|zf<|zi<|zc<|r_pv rfl rfl (zb rfl)<|r_pv rfl rfl (zb rfl)<|r_pv rfl rfl (zFa (z:=((((Big.digs a).getD i 0+(Big.digs b).getD i 0)+cy)%1000000000)) rfl rfl (by omega) (remN (by omega) (by omega)))<|r_pv rfl rfl (zx (z:=((((Big.digs a).getD i 0+(Big.digs b).getD i 0)+cy)%1000000000)) rfl (by rw [Try.underlying100];rfl) Try.underlying101 (wu32 (by omega)))<|zxa rfl rfl (zL (enc:=fun z:Int=>[.int .u32 z]) (ok:=InK .u32) (h1:=fun _=>rfl) (h2:=fun _=>rfl) (k:=1) Try.underlying41 inf101 rfl (by decide) (by decide) (by decide) (.c (x:=((((Big.digs a).getD i 0+(Big.digs b).getD i 0)+cy)%1000000000)) rfl rfl (fun _ _=>by exact zw.2 (by omega)) .n)) (fun b3 _=> ?_)
   refine zja 0 rfl .z<|zya 1 rfl rfl rfl (zva 0 rfl Try.underlying41 inf101 (by decide) rfl rfl (by first|rfl|assumption|(simp_all;done)|omega) rfl (by first|rfl|assumption|(simp_all;done)|omega) (by omega) (by omega)) (fun _=>(.s .z)) ?_
   rintro ⟨p4,c5⟩ -
   dsimp only [List.append_eq,List.nil_append,List.cons_append]
   refine r_pv rfl rfl (zd rfl)<|zj<|zf<|zc<|r_pv rfl rfl (zb rfl)<|r_pv rfl rfl (zHa (z:=((((Big.digs a).getD i 0+(Big.digs b).getD i 0)+cy) / 1000000000)) rfl rfl (by omega) (by rw [quoN (z:=((((Big.digs a).getD i 0+(Big.digs b).getD i 0)+cy) / 1000000000)) (by omega) (by omega)];exact wu64 (by omega)))<|r_pv rfl rfl (zd rfl)<|zj<|zS<|zf<|zc<|r_pv rfl rfl (zb rfl)<|r_pv rfl rfl (zz (z:=(((i+1):Nat):Int)) rfl rfl (w64 (by omega)))<|r_pv rfl rfl (zd rfl)<|zj<|zZ ((i+1),p4,c5,os++[((Big.digs a).getD i 0+(Big.digs b).getD i 0+cy)%1000000000],((Big.digs a).getD i 0+(Big.digs b).getD i 0+cy) / 1000000000) (show (i+1)≤max (Big.digs a).length (Big.digs b).length∧(os++[((Big.digs a).getD i 0+(Big.digs b).getD i 0+cy)%1000000000]).length=(i+1)∧0≤(((Big.digs a).getD i 0+(Big.digs b).getD i 0+cy) / 1000000000)∧(((Big.digs a).getD i 0+(Big.digs b).getD i 0+cy) / 1000000000)≤1∧Big.okL (os++[((Big.digs a).getD i 0+(Big.digs b).getD i 0+cy)%1000000000])∧Big.valL (os++[((Big.digs a).getD i 0+(Big.digs b).getD i 0+cy)%1000000000])+Big.pw (i+1)*(((Big.digs a).getD i 0+(Big.digs b).getD i 0+cy) / 1000000000)=Big.valL ((Big.digs a).take (i+1))+Big.valL ((Big.digs b).take (i+1)) from by exact ⟨by omega,by simp [hol],by omega,by omega,Big.okL_snoc hok (by omega) (by omega),Big.plus_step hol hv (by omega)⟩) (by show max (Big.digs a).length (Big.digs b).length - (i+1)<max (Big.digs a).length (Big.digs b).length - i;omega) ((.e rfl (by first|rfl|(congr 1;omega)|simp_all) (.e rfl (by simp) (.of rfl))):SubM _ _) (ho:=((.e (i:=1) rfl (by first|rfl|(congr 1;omega)|simp_all) .n):PickO _ _ _)) ((.of [1,2] rfl):SelR _ _ _)
  ·
   have hok2:=Big.okL_snoc hok hc0 (show cy<1000000000 by omega)
   have hfin:=Big.plus_end (a:=a) (b:=b) hol (by omega) (by omega) hv
   refine zha<|zm<|zm<|zv<|zf<|zi<|zc<|r_pv rfl rfl (zb rfl)<|r_pv rfl rfl (zb rfl)<|r_pv rfl rfl (zx (z:=cy) rfl (by rw [Try.underlying100];rfl) Try.underlying101 (wu32 (by omega)))<|zxa rfl rfl (zL (enc:=fun z:Int=>[.int .u32 z]) (ok:=InK .u32) (h1:=fun _=>rfl) (h2:=fun _=>rfl) (k:=1) Try.underlying41 inf101 rfl (by decide) (by decide) (by decide) (.c (x:=cy) rfl rfl (fun _ _=>by exact zw.2 (by omega)) .n)) (fun b6 _=> ?_)
   refine zja 0 rfl .z<|zya 1 rfl rfl rfl (zva 0 rfl Try.underlying41 inf101 (by decide) rfl rfl (by first|rfl|assumption|(simp_all;done)|omega) rfl (by first|rfl|assumption|(simp_all;done)|omega) (by omega) (by omega)) (fun _=>(.s .z)) ?_
   rintro ⟨p7,c8⟩ -
   dsimp only [List.append_eq,List.nil_append,List.cons_append]
   refine zja 1 rfl (.s .z)<|zA rfl rfl (.c rfl (.c rfl .n)) ce68 (zEa (s:=false) (p:=p7) (n:=os.length+1) (cap:=c8) (l:=(os++([cy]))) (hn:=by first|rfl|omega|(simp;done)|(simp;omega)) (ho:=by exact hok2) (hln:=by first|rfl|omega|(simp;done)|(simp;omega))) (.c (j:=0) rfl .n) ?_
   rintro ⟨p29,c210⟩ -
   dsimp only [List.append_eq,List.nil_append,List.cons_append]
   refine r_pv rfl rfl (zwa Try.underlying43 rfl ty41 rfl rfl)<|r_pv rfl rfl (zd rfl)<|zj<|zf<|zI ?_
   exact zD Try.results69 (p29,c210) trivial (zq rfl) (by rw [hfin]) (ho:=(.n:PickO _ _ _)) ((.e (j:=0) rfl (by rw [hfin]) .n):SelR _ _ _)
theorem zyb {a:Nat} {b:Nat} {p1:Option Addr} {c1:Nat} {p2:Option Addr} {c2:Nat} (hb1:(Big.digs a).length≤1099511627776) (hb2:(Big.digs b).length≤1099511627776) (hab:b≤a):Con Try.prog 71 [.slice p1 ((Big.digs a).length) c1,.slice p2 ((Big.digs b).length) c2] [] [slF (rI .u32) p1 c1 (Big.digs a),slF (rI .u32) p2 c2 (Big.digs b)] (Y:=(Option Addr)×Nat) (fun y=>True) (fun y=> .slice (y.1) ((Big.digs (a - b)).length) (y.2)) (fun y=>[]) (fun y=>[slF (rI .u32) (y.1) (y.2) (Big.digs (a - b))]):=by
 refine zr Try.func71 rfl rfl rfl (fun c=> ?_)
 show RunC _ _ _ _ _ [(0,.slice p1 ((Big.digs a).length) c1),(1,.slice p2 ((Big.digs b).length) c2)] [] [slF (rI .u32) p1 c1 (Big.digs a),slF (rI .u32) p2 c2 (Big.digs b)]
 refine zea 0 rfl (fun hL0=> ?_)
 refine zea 1 rfl (fun hL1=> ?_)
 refine zi<|zc<|r_pv rfl rfl (zd rfl)<|zj<|zf<|zi<|zc<|zxa rfl rfl (zsa (rI .u32) Try.underlying41 inf101) (fun b1 _=> ?_)
 refine r_pv rfl rfl (zd rfl)<|zj<|zf<|zi<|zc<|r_pv rfl rfl (zd rfl)<|zj<|zf<|zi<|zi<|zc<|r_pv rfl rfl (zd rfl)<|zj<|zf<|zB<|zna (X:=Nat×(Option Addr)×Nat×(List Int)×Int) (fun x:Nat×(Option Addr)×Nat×(List Int)×Int=>x.1≤(Big.digs a).length∧x.2.2.2.1.length=x.1∧0≤x.2.2.2.2∧x.2.2.2.2≤1∧Big.okL x.2.2.2.1∧Big.valL x.2.2.2.1+Big.valL ((Big.digs b).take x.1)=Big.valL ((Big.digs a).take x.1)+Big.pw x.1*x.2.2.2.2) (fun x=>[(6,.int .u64 (x.2.2.2.2)),(5,.slice (x.2.1) (x.2.2.2.1.length) (x.2.2.1)),(7,.int .i64 ((x.1:Nat):Int)),(4,.slice none 0 0),(0,.slice p1 ((Big.digs a).length) c1),(1,.slice p2 ((Big.digs b).length) c2)]) (fun x=>[rowA 101 (rI .u32) (x.2.1) (x.2.2.1) (x.2.2.2.1)]) (fun x=>[slF (rI .u32) p1 c1 (Big.digs a),slF (rI .u32) p2 c2 (Big.digs b)]) (fun x:Nat×(Option Addr)×Nat×(List Int)×Int=>(Big.digs a).length - x.1) (0,some ⟨b1,0,none⟩,0,[],0) (show 0≤(Big.digs a).length∧([]).length=0∧0≤0∧0≤1∧Big.okL ([])∧Big.valL ([])+Big.valL ((Big.digs b).take 0)=Big.valL ((Big.digs a).take 0)+Big.pw 0*0 from by exact ⟨by omega,rfl,by decide,by decide,Big.okL_nil,by simp [Big.valL]⟩) ((.c rfl (.e rfl (by first|rfl|(congr 1;omega)|simp_all) (.e rfl (by first|rfl|(congr 1;omega)|simp_all) (.of rfl)))):SubM _ _) (ho:=((.c (i:=0) rfl .n):PickO _ _ _)) ((.of [0,1] rfl):SelR _ _ _) ?_
 rintro ⟨i,p,c,os,bo⟩ hI
 replace hI:i≤(Big.digs a).length∧os.length=i∧0≤bo∧bo≤1∧Big.okL os∧Big.valL os+Big.valL ((Big.digs b).take i)=Big.valL ((Big.digs a).take i)+Big.pw i*bo:=hI
 try dsimp only
 obtain ⟨hi,hol,hc0,hc1,hok,hv⟩:=hI
 have hg1:=Big.okL_getD (Big.digs_ok a) i
 have hg2:=Big.okL_getD (Big.digs_ok b) i
 refine zi<|zi<|zc<|r_pv rfl rfl (zb rfl)<|r_pv rfl rfl (zb rfl)<|r_pv rfl rfl (zK Try.underlying41 rfl)<|r_pv rfl rfl (zW rfl rfl)<|zj<|zf<|zC rfl (fun h2=> ?_) (fun h2=> ?_)
 ·
  refine zy<|zf<|zi<|zB<|zi<|zc<|r_pv rfl rfl (zb rfl)<|r_pv rfl rfl (zb rfl)<|zM rfl rfl (.c rfl (.c rfl .n)) ce85 (zQa (p:=p1) (n:=(Big.digs a).length) (cap:=c1) (l:=Big.digs a) (i:=i) (hn:=by first|rfl|assumption|omega|(simp;done)|(simp;omega)|(simp_all;done)) (hi:=by first|rfl|assumption|omega|(simp;done)|(simp;omega)|(simp_all;done))) (.c (j:=0) rfl .n)<|r_pv rfl rfl (zz (z:=(1000000000+(Big.digs a).getD i 0)) rfl rfl (wu64 (by omega)))<|r_pv rfl rfl (zb rfl)<|r_pv rfl rfl (zb rfl)<|zM rfl rfl (.c rfl (.c rfl .n)) ce85 (zQa (p:=p2) (n:=(Big.digs b).length) (cap:=c2) (l:=Big.digs b) (i:=i) (hn:=by first|rfl|assumption|omega|(simp;done)|(simp;omega)|(simp_all;done)) (hi:=by first|rfl|assumption|omega|(simp;done)|(simp;omega)|(simp_all;done))) (.c (j:=1) rfl .n)<|r_pv rfl rfl (zda (z:=((1000000000+(Big.digs a).getD i 0) - (Big.digs b).getD i 0)) rfl rfl (wu64 (by omega)))<|r_pv rfl rfl (zb rfl)<|r_pv rfl rfl (zda (z:=(((1000000000+(Big.digs a).getD i 0) - (Big.digs b).getD i 0) - bo)) rfl rfl (wu64 (by omega)))<|r_pv rfl rfl (zd rfl)<|zj<|zf<|zi<|zc<|r_pv rfl rfl (zb rfl)<|r_pv rfl rfl (zb rfl)<|r_pv rfl rfl (zFa (z:=((((1000000000+(Big.digs a).getD i 0) - (Big.digs b).getD i 0) - bo)%1000000000)) rfl rfl (by omega) (remN (by omega) (by omega)))<|r_pv rfl rfl (zx (z:=((((1000000000+(Big.digs a).getD i 0) - (Big.digs b).getD i 0) - bo)%1000000000)) rfl (by rw [Try.underlying100];rfl) Try.underlying101 (wu32 (by omega)))<|zxa rfl rfl (zL (enc:=fun z:Int=>[.int .u32 z]) (ok:=InK .u32) (h1:=fun _=>rfl) (h2:=fun _=>rfl) (k:=1) Try.underlying41 inf101 rfl (by decide) (by decide) (by decide) (.c (x:=((((1000000000+(Big.digs a).getD i 0) - (Big.digs b).getD i 0) - bo)%1000000000)) rfl rfl (fun _ _=>by exact zw.2 (by omega)) .n)) (fun b3 _=> ?_)
  refine zja 0 rfl .z<|zya 1 rfl rfl rfl (zva 0 rfl Try.underlying41 inf101 (by decide) rfl rfl (by first|rfl|assumption|(simp_all;done)|omega) rfl (by first|rfl|assumption|(simp_all;done)|omega) (by omega) (by omega)) (fun _=>(.s .z)) ?_
  rintro ⟨p4,c5⟩ -
  dsimp only [List.append_eq,List.nil_append,List.cons_append]
  refine r_pv rfl rfl (zd rfl)<|zj<|zf<|zc<|r_pv rfl rfl (zb rfl)<|r_pv rfl rfl (zHa (z:=((((1000000000+(Big.digs a).getD i 0) - (Big.digs b).getD i 0) - bo) / 1000000000)) rfl rfl (by omega) (by rw [quoN (z:=((((1000000000+(Big.digs a).getD i 0) - (Big.digs b).getD i 0) - bo) / 1000000000)) (by omega) (by omega)];exact wu64 (by omega)))<|r_pv rfl rfl (zda (z:=(1 - ((((1000000000+(Big.digs a).getD i 0) - (Big.digs b).getD i 0) - bo) / 1000000000))) rfl rfl (wu64 (by omega)))<|r_pv rfl rfl (zd rfl)<|zj<|zS<|zf<|zc<|r_pv rfl rfl (zb rfl)<|r_pv rfl rfl (zz (z:=(((i+1):Nat):Int)) rfl rfl (w64 (by omega)))<|r_pv rfl rfl (zd rfl)<|zj<|zZ ((i+1),p4,c5,os++[(1000000000+(Big.digs a).getD i 0 - (Big.digs b).getD i 0 - bo)%1000000000],1 - (1000000000+(Big.digs a).getD i 0 - (Big.digs b).getD i 0 - bo) / 1000000000) (show (i+1)≤(Big.digs a).length∧(os++[(1000000000+(Big.digs a).getD i 0 - (Big.digs b).getD i 0 - bo)%1000000000]).length=(i+1)∧0≤(1 - (1000000000+(Big.digs a).getD i 0 - (Big.digs b).getD i 0 - bo) / 1000000000)∧(1 - (1000000000+(Big.digs a).getD i 0 - (Big.digs b).getD i 0 - bo) / 1000000000)≤1∧Big.okL (os++[(1000000000+(Big.digs a).getD i 0 - (Big.digs b).getD i 0 - bo)%1000000000])∧Big.valL (os++[(1000000000+(Big.digs a).getD i 0 - (Big.digs b).getD i 0 - bo)%1000000000])+Big.valL ((Big.digs b).take (i+1))=Big.valL ((Big.digs a).take (i+1))+Big.pw (i+1)*(1 - (1000000000+(Big.digs a).getD i 0 - (Big.digs b).getD i 0 - bo) / 1000000000) from by exact ⟨by omega,by simp [hol],by omega,by omega,Big.okL_snoc hok (by omega) (by omega),Big.minus_step hol hv (by omega)⟩) (by show (Big.digs a).length - (i+1)<(Big.digs a).length - i;omega) ((.e rfl (by first|rfl|(congr 1;omega)|simp_all) (.e rfl (by simp) (.of rfl))):SubM _ _) (ho:=((.e (i:=1) rfl (by first|rfl|(congr 1;omega)|simp_all) .n):PickO _ _ _)) ((.of [1,2] rfl):SelR _ _ _)
 ·
  have htr:Big.trimL os=Big.digs (a - b):=Big.minus_fin hab hok hc0 hol (by omega) hv
  have hfin:(Big.sg false (Big.valL os)).natAbs=a - b:=by rw [Big.sg_abs (Big.valL_nonneg hok)];have:=congrArg Big.valL htr;rw [Big.valL_trim,Big.valL_digs] at this;omega
  refine zha<|zm<|zm<|zv<|zf<|zi<|zc<|r_pv rfl rfl (zb rfl)<|zja 0 rfl .z<|zA rfl rfl (.c rfl (.c rfl .n)) ce68 (zEa (s:=false) (p:=p) (n:=os.length) (cap:=c) (l:=os) (hn:=by first|rfl|omega|(simp;done)|(simp;omega)) (ho:=by exact hok) (hln:=by first|rfl|omega|(simp;done)|(simp;omega))) (.c (j:=0) rfl .n) ?_
  rintro ⟨p26,c27⟩ -
  dsimp only [List.append_eq,List.nil_append,List.cons_append]
  refine r_pv rfl rfl (zwa Try.underlying43 rfl ty41 rfl rfl)<|r_pv rfl rfl (zd rfl)<|zj<|zf<|zI ?_
  exact zD Try.results71 (p26,c27) trivial (zq rfl) (by rw [hfin]) (ho:=(.n:PickO _ _ _)) ((.e (j:=0) rfl (by rw [hfin]) .n):SelR _ _ _)
theorem zlc {a:Nat} {b:Nat} {p1:Option Addr} {c1:Nat} {p2:Option Addr} {c2:Nat}:Con Try.prog 70 [.slice p1 ((Big.digs a).length) c1,.slice p2 ((Big.digs b).length) c2] [] [slF (rI .u32) p1 c1 (Big.digs a),slF (rI .u32) p2 c2 (Big.digs b)] (Y:=Unit) (fun y=>True) (fun y=> .int .i64 (Big.cmp (a:Int) (b:Int))) (fun y=>[]) (fun y=>[]):=by
 refine zr Try.func70 rfl rfl rfl (fun c=> ?_)
 show RunC _ _ _ _ _ [(0,.slice p1 ((Big.digs a).length) c1),(1,.slice p2 ((Big.digs b).length) c2)] [] [slF (rI .u32) p1 c1 (Big.digs a),slF (rI .u32) p2 c2 (Big.digs b)]
 refine zea 0 rfl (fun hL0=> ?_)
 refine zea 1 rfl (fun hL1=> ?_)
 refine zi<|zc<|r_pv rfl rfl (zd rfl)<|zj<|zf<|zi<|zi<|zc<|r_pv rfl rfl (zb rfl)<|r_pv rfl rfl (zK Try.underlying41 rfl)<|r_pv rfl rfl (zb rfl)<|r_pv rfl rfl (zK Try.underlying41 rfl)<|r_pv rfl rfl (zCa rfl rfl)<|zj<|zf<|zC rfl (fun hlen=> ?_) (fun hlen=> ?_)
 ·
  refine zi<|zi<|zc<|r_pv rfl rfl (zb rfl)<|r_pv rfl rfl (zK Try.underlying41 rfl)<|r_pv rfl rfl (zb rfl)<|r_pv rfl rfl (zK Try.underlying41 rfl)<|r_pv rfl rfl (zW rfl rfl)<|zj<|zf<|zC rfl (fun hll=> ?_) (fun hll=> ?_)
  ·
   refine zi<|zc<|r_pv rfl rfl (zd rfl)<|zj<|zf<|zI<|zt<|zt ?_
   exact zD Try.results70 () trivial (zq rfl) (by rw [← Big.cmp_len (by omega),Big.cmp_lt (by omega)]) (ho:=(.n:PickO _ _ _)) (.n:SelR _ _ _)
  ·
   refine zy<|zf<|zi<|zc<|r_pv rfl rfl (zd rfl)<|zj<|zf<|zI<|zt ?_
   exact zD Try.results70 () trivial (zq rfl) (by rw [← Big.cmp_len (by omega),Big.cmp_gt (by omega)]) (ho:=(.n:PickO _ _ _)) (.n:SelR _ _ _)
 ·
  replace hlen:(Big.digs a).length=(Big.digs b).length:=by omega
  refine zy<|zf<|zi<|zi<|zc<|r_pv rfl rfl (zb rfl)<|r_pv rfl rfl (zK Try.underlying41 rfl)<|r_pv rfl rfl (zda (z:=((((Big.digs a).length:Nat):Int) - 1)) rfl rfl (w64 (by omega)))<|r_pv rfl rfl (zd rfl)<|zj<|zf<|zB<|zna (X:=Nat) (fun x:Nat=>x≤(Big.digs a).length∧(Big.digs a).drop x=(Big.digs b).drop x) (fun x=>[(5,.int .i64 (((x:Nat):Int) - 1)),(0,.slice p1 ((Big.digs a).length) c1),(1,.slice p2 ((Big.digs b).length) c2)]) (fun x=>[]) (fun x=>[slF (rI .u32) p1 c1 (Big.digs a),slF (rI .u32) p2 c2 (Big.digs b)]) (fun x:Nat=>x) ((Big.digs a).length) (show ((Big.digs a).length)≤(Big.digs a).length∧(Big.digs a).drop ((Big.digs a).length)=(Big.digs b).drop ((Big.digs a).length) from by exact ⟨Nat.le_refl _,by rw [List.drop_length,hlen,List.drop_length]⟩) ((.e rfl (by first|rfl|(congr 1;omega)|simp_all) (.c rfl (.c rfl .n))):SubM _ _) (ho:=(.n:PickO _ _ _)) ((.of [0,1] rfl):SelR _ _ _) ?_
  rintro j hI
  replace hI:j≤(Big.digs a).length∧(Big.digs a).drop j=(Big.digs b).drop j:=hI
  try dsimp only
  obtain ⟨hj,hd⟩:=hI
  refine zi<|zi<|zc<|r_pv rfl rfl (zb rfl)<|r_pv rfl rfl (zGa rfl rfl)<|zj<|zf<|zC rfl (fun h1=> ?_) (fun h1=> ?_)
  ·
   obtain ⟨k,rfl⟩:∃k,j=k+1:=⟨j - 1,by omega⟩
   have e2:(((((k+1):Nat):Int) - 1):Int)=((k:Nat):Int):=by omega
   rw [e2]
   refine zy<|zf<|zi<|zB<|zi<|zi<|zia (OW:=[]) (O:=[]) 100000 mixed (.then (.then (.block (.then (.then (.block (.then .ret))))))) (by kernel_rfl)<|d_pv 0 rfl rfl (by kernel_rfl) (by kernel_rfl) rfl rfl (zb rfl)<|d_pv 1 rfl rfl (by kernel_rfl) (by kernel_rfl) rfl rfl (zb rfl)<|zqa (x0:=((Big.digs a).getD k 0)) 2 rfl rfl (by kernel_rfl) (by kernel_rfl) 0 k rfl Try.underlying41 sz101 rfl rfl rfl (by first|rfl|assumption|(simp_all;done)|omega) rfl rfl (gD (d:=0) (by omega)) (fun b3 o4 hok5=> ?_)
   replace hok5:=zw.1 hok5
   refine d_u 3 rfl rfl (by kernel_rfl) (by kernel_rfl) rfl rfl (zn (j:=0) 0 ty101 rfl rfl rfl rfl)<|d_pv 4 rfl rfl (by kernel_rfl) (by kernel_rfl) rfl rfl (zb rfl)<|d_pv 5 rfl rfl (by kernel_rfl) (by kernel_rfl) rfl rfl (zb rfl)<|zqa (x0:=((Big.digs b).getD k 0)) 6 rfl rfl (by kernel_rfl) (by kernel_rfl) 2 k rfl Try.underlying41 sz101 rfl rfl rfl (by first|rfl|assumption|(simp_all;done)|omega) rfl rfl (gD (d:=0) (by omega)) (fun b6 o7 hok8=> ?_)
   replace hok8:=zw.1 hok8
   refine d_u 7 rfl rfl (by kernel_rfl) (by kernel_rfl) rfl rfl (zn (j:=0) 0 ty101 rfl rfl rfl rfl)<|d_pv 8 rfl rfl (by kernel_rfl) (by kernel_rfl) rfl rfl (zW rfl rfl)<|zfa (by kernel_rfl)<|zf<|zC rfl (fun hlt=> ?_) (fun hlt=> ?_)
   ·
    refine zi<|zc<|r_pv rfl rfl (zd rfl)<|zj<|zf<|zI<|zt<|zba<|zt<|zt<|zba<|zt ?_
    exact zD Try.results70 () trivial (zq rfl) (by rw [← Big.cmp_at hlen (by omega) hd (by omega),Big.cmp_lt (by omega)]) (ho:=(.n:PickO _ _ _)) (.n:SelR _ _ _)
   ·
    refine zy<|zf<|zi<|zia (OW:=[]) (O:=[]) 100000 mixed (.then (.block (.then (.then (.block (.then .ret)))))) (by kernel_rfl)<|d_pv 0 rfl rfl (by kernel_rfl) (by kernel_rfl) rfl rfl (zb rfl)<|d_pv 1 rfl rfl (by kernel_rfl) (by kernel_rfl) rfl rfl (zb rfl)<|zqa (x0:=((Big.digs a).getD k 0)) 2 rfl rfl (by kernel_rfl) (by kernel_rfl) 2 k rfl Try.underlying41 sz101 rfl rfl rfl (by first|rfl|assumption|(simp_all;done)|omega) rfl rfl (gD (d:=0) (by omega)) (fun b9 o10 hok11=> ?_)
    replace hok11:=zw.1 hok11
    refine d_u 3 rfl rfl (by kernel_rfl) (by kernel_rfl) rfl rfl (zn (j:=0) 0 ty101 rfl rfl rfl rfl)<|d_pv 4 rfl rfl (by kernel_rfl) (by kernel_rfl) rfl rfl (zb rfl)<|d_pv 5 rfl rfl (by kernel_rfl) (by kernel_rfl) rfl rfl (zb rfl)<|zqa (x0:=((Big.digs b).getD k 0)) 6 rfl rfl (by kernel_rfl) (by kernel_rfl) 4 k rfl Try.underlying41 sz101 rfl rfl rfl (by first|rfl|assumption|(simp_all;done)|omega) rfl rfl (gD (d:=0) (by omega)) (fun b12 o13 hok14=> ?_)
    replace hok14:=zw.1 hok14
    refine d_u 7 rfl rfl (by kernel_rfl) (by kernel_rfl) rfl rfl (zn (j:=0) 0 ty101 rfl rfl rfl rfl)<|d_pv 8 rfl rfl (by kernel_rfl) (by kernel_rfl) rfl rfl (zua rfl rfl)<|zfa (by kernel_rfl)<|zf<|zC rfl (fun hgt=> ?_) (fun hgt=> ?_)
    ·
     refine zi<|zc<|r_pv rfl rfl (zd rfl)<|zj<|zf<|zI<|zba<|zt<|zt<|zba<|zt ?_
     exact zD Try.results70 () trivial (zq rfl) (by rw [← Big.cmp_at hlen (by omega) hd (by omega),Big.cmp_gt (by omega)]) (ho:=(.n:PickO _ _ _)) (.n:SelR _ _ _)
    ·
     refine zy<|zS<|zf<|zc<|r_pv rfl rfl (zb rfl)<|r_pv rfl rfl (zda (z:=(((k:Nat):Int) - 1)) rfl rfl (w64 (by omega)))<|r_pv rfl rfl (zd rfl)<|zj<|zZ k (show k≤(Big.digs a).length∧(Big.digs a).drop k=(Big.digs b).drop k from by exact ⟨by omega,Big.drop_more (by omega) (by omega) hd (by omega)⟩) (by show k<k+1;omega) ((.of rfl):SubM _ _) (ho:=(.n:PickO _ _ _)) ((.of [4,5] rfl):SelR _ _ _)
  ·
   refine zha<|zm<|zm<|zv<|zf<|zi<|zc<|r_pv rfl rfl (zd rfl)<|zj<|zf<|zI ?_
   have hj0:j=0:=by omega
   subst hj0
   have heq:=Big.cmp_eq (show Big.digs a=Big.digs b by simpa using hd)
   exact zD Try.results70 () trivial (zq rfl) (by rw [heq] <;> simp [Big.cmp]) (ho:=(.n:PickO _ _ _)) (.n:SelR _ _ _)
theorem zMd {s:Bool} {p:Option Addr} {n:Nat} {cap:Nat} {l:List Int} (hn:l.length=n) (hln:n≤1099511627776):Con Try.prog 65 [.agg #[.bool s,.slice p n cap]] [] [slF (rI .u32) p cap l] (Y:=(Option Addr)×Nat) (fun y=>True) (fun y=> .agg #[.bool (decide ((- Big.raw s l)<0)),.slice (y.1) ((Big.digs ((- Big.raw s l).natAbs)).length) (y.2)]) (fun y=>[]) (fun y=>[slF (rI .u32) (y.1) (y.2) (Big.digs ((- Big.raw s l).natAbs))]):=by
 refine zr Try.func65 rfl rfl rfl (fun c=> ?_)
 show RunC _ _ _ _ _ [(0,.agg #[.bool s,.slice p n cap])] [] [slF (rI .u32) p cap l]
 refine zea 0 rfl (fun hL0=> ?_)
 refine zdb 0 rfl (fun hE0=> ?_)
 have hnn:Big.nn l:=fun g hg=>(zw.1 (hE0 g hg)).1
 have hb:Big.ln (Big.raw s l)≤n:=by have:=Big.zcb (s:=s) hnn;omega
 unfold Big.ln at hb
 refine zi<|zc<|zQ rfl rfl (zV rfl rfl) (fun b1=> ?_)
 refine zQ rfl rfl (zE zr43 rfl) (fun b2=> ?_)
 refine zj<|zf<|zi<|zc<|r_u rfl rfl (zh 1 ty43 rfl rfl (.take (.take .nil)))<|zA rfl rfl (.c rfl .n) ce67 (zKa (s:=s) (p:=p) (n:=n) (cap:=cap) (l:=l) (hn:=by assumption) (hln:=by assumption)) (.c (j:=0) rfl .n) ?_
 rintro ⟨p23,c24⟩ -
 dsimp only [List.append_eq,List.nil_append,List.cons_append]
 refine zo 1 rfl rfl rfl rfl rfl sz43 rfl (.take (.take .nil)) (.s .z)<|zj<|zf<|zi<|zc<|r_pv rfl rfl (zg Try.underlying43 rfl sz4 rfl rfl)<|r_u rfl rfl (ze 1 ty4 rfl rfl rfl)<|r_pv rfl rfl (zDb rfl)<|r_pv rfl rfl (zg Try.underlying43 rfl sz41 rfl rfl)<|r_u rfl rfl (ze 1 ty41 rfl rfl rfl)<|zA rfl rfl (.c rfl (.c rfl .n)) ce68 (zab (s:= !(decide ((Big.raw s l)<0))) (a:=(Big.raw s l).natAbs) (p:=p23) (cap:=c24) (hln:=by first|rfl|assumption|omega|(simp;done)|(simp;omega)|(simp_all;done))) (.c (j:=0) rfl .n) ?_
 rintro ⟨p25,c26⟩ -
 dsimp only [List.append_eq,List.nil_append,List.cons_append]
 refine zo 0 rfl rfl rfl rfl rfl sz43 rfl (.take (.take .nil)) .z<|zj<|zf<|zI ?_
 have hz:Big.sg (!decide (Big.raw s l<0)) ((Big.raw s l).natAbs:Int)= - Big.raw s l:=by rw [Big.sg_not,Big.sg_big]
 exact zD Try.results65 (p25,c26) trivial (zu 0 ty43 rfl rfl (.take (.take .nil))) (by rw [hz]) (ho:=(.n:PickO _ _ _)) ((.e (j:=0) rfl (by rw [hz]) .n):SelR _ _ _)
theorem zDe {z:Int} {p:Option Addr} {cap:Nat} (hln:Big.ln z≤1099511627776):Con Try.prog 65 [.agg #[.bool (decide ((z)<0)),.slice (p) ((Big.digs ((z).natAbs)).length) (cap)]] [] [slF (rI .u32) (p) (cap) (Big.digs ((z).natAbs))] (Y:=(Option Addr)×(Nat)) (fun y=>True) (fun y=> .agg #[.bool (decide ((- z)<0)),.slice (y.1) ((Big.digs ((- z).natAbs)).length) (y.2)]) (fun y=>[]) (fun y=>[slF (rI .u32) (y.1) (y.2) (Big.digs ((- z).natAbs))]):=by
  have h:= @zMd (decide ((z)<0)) p (Big.digs (z).natAbs).length cap (Big.digs (z).natAbs) rfl hln
  rw [Big.raw_big] at h
  exact h
theorem zbd {w1:Wd} {x1:Int} (hln:Big.ln x1≤1099511627776):Con Try.prog 65 [.agg #[w1.b,w1.l]] [] [zF w1 (x1)] (Y:=(Wd)) (fun y=>True) (fun y=> .agg #[y.b,y.l]) (fun y=>[]) (fun y=>[zF y (- x1)]):=by
  exact zWb (zZc (fun p c=>zDe hln))
theorem zcd {s:Bool} {p:Option Addr} {n:Nat} {cap:Nat} {l:List Int} (hn:l.length=n) (hln:n≤1099511627776):Con Try.prog 64 [.agg #[.bool s,.slice p n cap]] [] [slF (rI .u32) p cap l] (Y:=Unit) (fun y=>True) (fun y=> .int .i64 ((Big.raw s l).sign)) (fun y=>[]) (fun y=>[]):=by
 refine zr Try.func64 rfl rfl rfl (fun c=> ?_)
 show RunC _ _ _ _ _ [(0,.agg #[.bool s,.slice p n cap])] [] [slF (rI .u32) p cap l]
 refine zea 0 rfl (fun hL0=> ?_)
 refine zdb 0 rfl (fun hE0=> ?_)
 have hnn:Big.nn l:=fun g hg=>(zw.1 (hE0 g hg)).1
 refine zi<|zc<|zQ rfl rfl (zV rfl rfl) (fun b1=> ?_)
 refine r_pv rfl rfl (zd rfl)<|zj<|zf<|zi<|zc<|r_u rfl rfl (zh 0 ty43 rfl rfl (.take (.take .nil)))<|zA rfl rfl (.c rfl .n) ce67 (zKa (s:=s) (p:=p) (n:=n) (cap:=cap) (l:=l) (hn:=by assumption) (hln:=by assumption)) (.c (j:=0) rfl .n) ?_
 rintro ⟨p22,c23⟩ -
 dsimp only [List.append_eq,List.nil_append,List.cons_append]
 refine zo 0 rfl rfl rfl rfl rfl sz43 rfl (.take (.take .nil)) .z<|zj<|zf<|zi<|zi<|zc<|r_pv rfl rfl (zg Try.underlying43 rfl sz41 rfl rfl)<|r_u rfl rfl (ze 0 ty41 rfl rfl rfl)<|r_pv rfl rfl (zK Try.underlying41 rfl)<|r_pv rfl rfl (zAa rfl rfl)<|zj<|zf<|zC rfl (fun h0=> ?_) (fun h0=> ?_)
 ·
  refine zi<|zc<|r_pv rfl rfl (zd rfl)<|zj<|zf<|zI<|zt ?_
  exact zD Try.results64 () trivial (zq rfl) (by rw [show Big.raw s l=0 by have:=Big.len_digs_nil.1 (show (Big.digs (Big.raw s l).natAbs).length=0 by omega);omega];rfl) (ho:=(.n:PickO _ _ _)) (.n:SelR _ _ _)
 ·
  refine zy<|zf<|zi<|zi<|zc<|r_pv rfl rfl (zg Try.underlying43 rfl sz4 rfl rfl)<|r_u rfl rfl (ze 0 ty4 rfl rfl rfl)<|zj<|zf<|zcc rfl (fun hs=> ?_) (fun hs=> ?_)
  ·
   refine zi<|zc<|r_pv rfl rfl (zd rfl)<|zj<|zf<|zI<|zt ?_
   exact zD Try.results64 () trivial (zq rfl) (by rw [Int.sign_eq_neg_one_of_neg (by simpa using hs)]) (ho:=(.n:PickO _ _ _)) (.n:SelR _ _ _)
  ·
   refine zy<|zf<|zi<|zc<|r_pv rfl rfl (zd rfl)<|zj<|zf<|zI ?_
   exact zD Try.results64 () trivial (zq rfl) (by rw [Int.sign_eq_one_of_pos (by have h2:¬Big.raw s l<0:=(by simpa using hs);have:(Big.raw s l).natAbs≠0:=(fun e=>h0 (by rw [e];rfl));omega)]) (ho:=(.n:PickO _ _ _)) (.n:SelR _ _ _)
theorem zCc {z:Int} {p:Option Addr} {cap:Nat} (hln:Big.ln z≤1099511627776):Con Try.prog 64 [.agg #[.bool (decide ((z)<0)),.slice (p) ((Big.digs ((z).natAbs)).length) (cap)]] [] [slF (rI .u32) (p) (cap) (Big.digs ((z).natAbs))] (Y:=Unit) (fun y=>True) (fun y=> .int .i64 ((z).sign)) (fun y=>[]) (fun y=>[]):=by
  have h:= @zcd (decide ((z)<0)) p (Big.digs (z).natAbs).length cap (Big.digs (z).natAbs) rfl hln
  rw [Big.raw_big] at h
  exact h
theorem zQb {w1:Wd} {x1:Int} (hln:Big.ln x1≤1099511627776):Con Try.prog 64 [.agg #[w1.b,w1.l]] [] [zF w1 (x1)] (Y:=Unit) (fun y=>True) (fun y=> .int .i64 ((x1).sign)) (fun y=>[]) (fun y=>[]):=by
  exact zZc (fun p c=>zCc hln)
theorem zNd {s:Bool} {p1:Option Addr} {n1:Nat} {c1:Nat} {l1:List Int} {t:Bool} {p2:Option Addr} {n2:Nat} {c2:Nat} {l2:List Int} (hn1:l1.length=n1) (hn2:l2.length=n2) (hm1:n1≤1099511627776) (hm2:n2≤1099511627776):Con Try.prog 45 [.agg #[.bool s,.slice p1 n1 c1],.agg #[.bool t,.slice p2 n2 c2]] [] [slF (rI .u32) p1 c1 l1,slF (rI .u32) p2 c2 l2] (Y:=(Option Addr)×Nat) (fun y=>True) (fun y=> .agg #[.bool (decide ((Big.raw s l1+Big.raw t l2)<0)),.slice (y.1) ((Big.digs ((Big.raw s l1+Big.raw t l2).natAbs)).length) (y.2)]) (fun y=>[]) (fun y=>[slF (rI .u32) (y.1) (y.2) (Big.digs ((Big.raw s l1+Big.raw t l2).natAbs))]):=by
 refine zr Try.func45 rfl rfl rfl (fun c=> ?_)
 show RunC _ _ _ _ _ [(0,.agg #[.bool s,.slice p1 n1 c1]),(1,.agg #[.bool t,.slice p2 n2 c2])] [] [slF (rI .u32) p1 c1 l1,slF (rI .u32) p2 c2 l2]
 refine zea 0 rfl (fun hL0=> ?_)
 refine zdb 0 rfl (fun hE0=> ?_)
 refine zea 1 rfl (fun hL1=> ?_)
 refine zdb 1 rfl (fun hE1=> ?_)
 have hnn1:Big.nn l1:=fun g hg=>(zw.1 (hE0 g hg)).1
 have hnn2:Big.nn l2:=fun g hg=>(zw.1 (hE1 g hg)).1
 have hb1:Big.ln (Big.raw s l1)≤n1:=by have:=Big.zcb (s:=s) hnn1;omega
 have hb2:Big.ln (Big.raw t l2)≤n2:=by have:=Big.zcb (s:=t) hnn2;omega
 unfold Big.ln at hb1 hb2
 refine zi<|zc<|zQ rfl rfl (zV rfl rfl) (fun b1=> ?_)
 refine zQ rfl rfl (zV rfl rfl) (fun b2=> ?_)
 refine zQ rfl rfl (zE zr43 rfl) (fun b3=> ?_)
 refine zj<|zf<|zi<|zBa (.c (i:=2) rfl (.c (i:=1) rfl (.c (i:=0) rfl .n)))<|zia (OW:=[boxA b1 43 [.bool s,.slice p1 n1 c1],boxA b2 43 [.bool t,.slice p2 n2 c2]]) (O:=[boxA b3 43 [.bool false,.slice none 0 0]]) 4 mixed (.then .ret) (by kernel_rfl)<|d_uw 0 rfl rfl (by kernel_rfl) (by kernel_rfl) (by kernel_rfl) rfl rfl (zh 0 ty43 rfl rfl (.take (.take .nil)))<|d_uw 2 rfl rfl (by kernel_rfl) (by kernel_rfl) (by kernel_rfl) rfl rfl (zh 1 ty43 rfl rfl (.take (.take .nil)))<|zT 1 (by kernel_rfl) (zU rfl rfl rfl rfl (.c rfl .n) ce67 (zKa (s:=s) (p:=p1) (n:=n1) (cap:=c1) (l:=l1) (hn:=by assumption) (hln:=by assumption)) (.c (j:=0) rfl .n) ?_)
 rintro ⟨p24,c25⟩ -
 dsimp only [List.append_eq,List.nil_append,List.cons_append]
 refine zT 3 (by kernel_rfl) (zU rfl rfl rfl rfl (.c rfl .n) ce67 (zKa (s:=t) (p:=p2) (n:=n2) (cap:=c2) (l:=l2) (hn:=by assumption) (hln:=by assumption)) (.c (j:=2) rfl .n) ?_)
 rintro ⟨p26,c27⟩ -
 dsimp only [List.append_eq,List.nil_append,List.cons_append]
 refine zT 4 (by kernel_rfl) (zJ (by kernel_rfl) rfl rfl rfl rfl rfl sz43 rfl (.take (.take .nil)) ?_)
 refine zOa (zoa (i:=1) rfl)<|zT 5 (by kernel_rfl) (zJ (by kernel_rfl) rfl rfl rfl rfl rfl sz43 rfl (.take (.take .nil)) ?_)
 refine zfa (by kernel_rfl)<|zf<|zi<|zi<|zc<|r_pv rfl rfl (zg Try.underlying43 rfl sz4 rfl rfl)<|r_u rfl rfl (ze 1 ty4 rfl rfl rfl)<|r_pv rfl rfl (zg Try.underlying43 rfl sz4 rfl rfl)<|r_u rfl rfl (ze 0 ty4 rfl rfl rfl)<|r_pv rfl rfl (zmd Try.underlying4 rfl rfl)<|zj<|zf<|zC rfl (fun hst=> ?_) (fun hst=> ?_)
 ·
  refine zi<|zBa (.c (i:=2) rfl (.c (i:=0) rfl (.c (i:=0) rfl .n)))<|zia (OW:=[boxA b3 43 [.bool false,.slice none 0 0]]) (O:=[boxA b2 43 [.bool (decide ((Big.raw t l2)<0)),.slice p26 ((Big.digs ((Big.raw t l2).natAbs)).length) c27],boxA b1 43 [.bool (decide ((Big.raw s l1)<0)),.slice p24 ((Big.digs ((Big.raw s l1).natAbs)).length) c25]]) 8 mixed (.then (.then .ret)) (by kernel_rfl)<|d_pv 0 rfl rfl (by kernel_rfl) (by kernel_rfl) rfl rfl (zg Try.underlying43 rfl sz4 rfl rfl)<|d_uw 1 rfl rfl (by kernel_rfl) (by kernel_rfl) (by kernel_rfl) rfl rfl (ze 2 ty4 rfl rfl rfl)<|d_pv 2 rfl rfl (by kernel_rfl) (by kernel_rfl) rfl rfl (zg Try.underlying43 rfl sz41 rfl rfl)<|d_uw 3 rfl rfl (by kernel_rfl) (by kernel_rfl) (by kernel_rfl) rfl rfl (ze 2 ty41 rfl rfl rfl)<|d_pv 4 rfl rfl (by kernel_rfl) (by kernel_rfl) rfl rfl (zg Try.underlying43 rfl sz41 rfl rfl)<|d_uw 5 rfl rfl (by kernel_rfl) (by kernel_rfl) (by kernel_rfl) rfl rfl (ze 1 ty41 rfl rfl rfl)<|zT 6 (by kernel_rfl) (zU rfl rfl rfl rfl (.c rfl (.c rfl .n)) ce69 (zCe (a:=(Big.raw s l1).natAbs) (b:=(Big.raw t l2).natAbs) (p1:=p24) (c1:=c25) (p2:=p26) (c2:=c27) (hb1:=by first|rfl|assumption|omega|(unfold Big.ln;omega)|(simp;done)|(simp;omega)|(simp_all;done)) (hb2:=by first|rfl|assumption|omega|(unfold Big.ln;omega)|(simp;done)|(simp;omega)|(simp_all;done))) (.c (j:=1) rfl (.c (j:=0) rfl .n)) ?_)
  rintro ⟨p38,c39⟩ -
  dsimp only [List.append_eq,List.nil_append,List.cons_append]
  refine zT 7 (by kernel_rfl) (zU rfl rfl rfl rfl (.c rfl (.c rfl .n)) ce68 (zab (s:=decide ((Big.raw s l1)<0)) (a:=((Big.raw s l1).natAbs)+((Big.raw t l2).natAbs)) (p:=p38) (cap:=c39) (hln:=by have:=Big.len_add (Big.raw s l1).natAbs (Big.raw t l2).natAbs;omega)) (.c (j:=0) rfl .n) ?_)
  rintro ⟨p210,c211⟩ -
  dsimp only [List.append_eq,List.nil_append,List.cons_append]
  refine zT 8 (by kernel_rfl) (zJ (by kernel_rfl) rfl rfl rfl rfl rfl sz43 rfl (.take (.take .nil)) ?_)
  refine zfa (by kernel_rfl)<|zf<|zI<|zt ?_
  have hz:=Big.add_same hst
  exact zD Try.results45 (p210,c211) trivial (zu 0 ty43 rfl rfl (.take (.take .nil))) (by rw [hz]) (ho:=(.n:PickO _ _ _)) ((.e (j:=0) rfl (by rw [hz]) .n):SelR _ _ _)
 ·
  refine zy<|zf<|zi<|zi<|zc<|r_pv rfl rfl (zg Try.underlying43 rfl sz41 rfl rfl)<|r_u rfl rfl (ze 1 ty41 rfl rfl rfl)<|r_pv rfl rfl (zg Try.underlying43 rfl sz41 rfl rfl)<|r_u rfl rfl (ze 0 ty41 rfl rfl rfl)<|zM rfl rfl (.c rfl (.c rfl .n)) ce70 (zlc (a:=(Big.raw s l1).natAbs) (b:=(Big.raw t l2).natAbs) (p1:=p24) (c1:=c25) (p2:=p26) (c2:=c27)) (.c (j:=1) rfl (.c (j:=0) rfl .n))<|r_pv rfl rfl (zGa rfl rfl)<|zj<|zf<|zC rfl (fun hcmp=> ?_) (fun hcmp=> ?_)
  ·
   have hab:(Big.raw t l2).natAbs≤(Big.raw s l1).natAbs:=by have:=Big.cmp_ge.1 hcmp;omega
   refine zi<|zBa (.c (i:=2) rfl (.c (i:=0) rfl (.c (i:=0) rfl .n)))<|zia (OW:=[boxA b3 43 [.bool false,.slice none 0 0]]) (O:=[boxA b2 43 [.bool (decide ((Big.raw t l2)<0)),.slice p26 ((Big.digs ((Big.raw t l2).natAbs)).length) c27],boxA b1 43 [.bool (decide ((Big.raw s l1)<0)),.slice p24 ((Big.digs ((Big.raw s l1).natAbs)).length) c25]]) 8 mixed (.then (.then .ret)) (by kernel_rfl)<|d_pv 0 rfl rfl (by kernel_rfl) (by kernel_rfl) rfl rfl (zg Try.underlying43 rfl sz4 rfl rfl)<|d_uw 1 rfl rfl (by kernel_rfl) (by kernel_rfl) (by kernel_rfl) rfl rfl (ze 2 ty4 rfl rfl rfl)<|d_pv 2 rfl rfl (by kernel_rfl) (by kernel_rfl) rfl rfl (zg Try.underlying43 rfl sz41 rfl rfl)<|d_uw 3 rfl rfl (by kernel_rfl) (by kernel_rfl) (by kernel_rfl) rfl rfl (ze 2 ty41 rfl rfl rfl)<|d_pv 4 rfl rfl (by kernel_rfl) (by kernel_rfl) rfl rfl (zg Try.underlying43 rfl sz41 rfl rfl)<|d_uw 5 rfl rfl (by kernel_rfl) (by kernel_rfl) (by kernel_rfl) rfl rfl (ze 1 ty41 rfl rfl rfl)<|zT 6 (by kernel_rfl) (zU rfl rfl rfl rfl (.c rfl (.c rfl .n)) ce71 (zyb (a:=(Big.raw s l1).natAbs) (b:=(Big.raw t l2).natAbs) (p1:=p24) (c1:=c25) (p2:=p26) (c2:=c27) (hb1:=by first|rfl|assumption|omega|(unfold Big.ln;omega)|(simp;done)|(simp;omega)|(simp_all;done)) (hb2:=by first|rfl|assumption|omega|(unfold Big.ln;omega)|(simp;done)|(simp;omega)|(simp_all;done)) (hab:=by first|rfl|assumption|omega|(unfold Big.ln;omega)|(simp;done)|(simp;omega)|(simp_all;done))) (.c (j:=1) rfl (.c (j:=0) rfl .n)) ?_)
   rintro ⟨p312,c313⟩ -
   dsimp only [List.append_eq,List.nil_append,List.cons_append]
   refine zT 7 (by kernel_rfl) (zU rfl rfl rfl rfl (.c rfl (.c rfl .n)) ce68 (zab (s:=decide ((Big.raw s l1)<0)) (a:=((Big.raw s l1).natAbs) - ((Big.raw t l2).natAbs)) (p:=p312) (cap:=c313) (hln:=by have:=Big.len_sub (Big.raw s l1).natAbs (Big.raw t l2).natAbs;omega)) (.c (j:=0) rfl .n) ?_)
   rintro ⟨p214,c215⟩ -
   dsimp only [List.append_eq,List.nil_append,List.cons_append]
   refine zT 8 (by kernel_rfl) (zJ (by kernel_rfl) rfl rfl rfl rfl rfl sz43 rfl (.take (.take .nil)) ?_)
   refine zfa (by kernel_rfl)<|zf<|zI<|zt ?_
   have hz:=Big.add_ge hst hab
   exact zD Try.results45 (p214,c215) trivial (zu 0 ty43 rfl rfl (.take (.take .nil))) (by rw [hz]) (ho:=(.n:PickO _ _ _)) ((.e (j:=0) rfl (by rw [hz]) .n):SelR _ _ _)
  ·
   have hab:(Big.raw s l1).natAbs≤(Big.raw t l2).natAbs:=by have:¬((Big.raw t l2).natAbs:Int)≤(Big.raw s l1).natAbs:=fun h=>hcmp (Big.cmp_ge.2 h);omega
   refine zy<|zf<|zi<|zBa (.c (i:=2) rfl (.c (i:=0) rfl (.c (i:=0) rfl .n)))<|zia (OW:=[boxA b3 43 [.bool false,.slice none 0 0]]) (O:=[boxA b2 43 [.bool (decide ((Big.raw t l2)<0)),.slice p26 ((Big.digs ((Big.raw t l2).natAbs)).length) c27],boxA b1 43 [.bool (decide ((Big.raw s l1)<0)),.slice p24 ((Big.digs ((Big.raw s l1).natAbs)).length) c25]]) 8 mixed (.then .ret) (by kernel_rfl)<|d_pv 0 rfl rfl (by kernel_rfl) (by kernel_rfl) rfl rfl (zg Try.underlying43 rfl sz4 rfl rfl)<|d_uw 1 rfl rfl (by kernel_rfl) (by kernel_rfl) (by kernel_rfl) rfl rfl (ze 1 ty4 rfl rfl rfl)<|d_pv 2 rfl rfl (by kernel_rfl) (by kernel_rfl) rfl rfl (zg Try.underlying43 rfl sz41 rfl rfl)<|d_uw 3 rfl rfl (by kernel_rfl) (by kernel_rfl) (by kernel_rfl) rfl rfl (ze 1 ty41 rfl rfl rfl)<|d_pv 4 rfl rfl (by kernel_rfl) (by kernel_rfl) rfl rfl (zg Try.underlying43 rfl sz41 rfl rfl)<|d_uw 5 rfl rfl (by kernel_rfl) (by kernel_rfl) (by kernel_rfl) rfl rfl (ze 2 ty41 rfl rfl rfl)<|zT 6 (by kernel_rfl) (zU rfl rfl rfl rfl (.c rfl (.c rfl .n)) ce71 (zyb (a:=(Big.raw t l2).natAbs) (b:=(Big.raw s l1).natAbs) (p1:=p26) (c1:=c27) (p2:=p24) (c2:=c25) (hb1:=by first|rfl|assumption|omega|(unfold Big.ln;omega)|(simp;done)|(simp;omega)|(simp_all;done)) (hb2:=by first|rfl|assumption|omega|(unfold Big.ln;omega)|(simp;done)|(simp;omega)|(simp_all;done)) (hab:=by first|rfl|assumption|omega|(unfold Big.ln;omega)|(simp;done)|(simp;omega)|(simp_all;done))) (.c (j:=0) rfl (.c (j:=1) rfl .n)) ?_)
   rintro ⟨p316,c317⟩ -
   dsimp only [List.append_eq,List.nil_append,List.cons_append]
   refine zT 7 (by kernel_rfl) (zU rfl rfl rfl rfl (.c rfl (.c rfl .n)) ce68 (zab (s:=decide ((Big.raw t l2)<0)) (a:=((Big.raw t l2).natAbs) - ((Big.raw s l1).natAbs)) (p:=p316) (cap:=c317) (hln:=by have:=Big.len_sub (Big.raw t l2).natAbs (Big.raw s l1).natAbs;omega)) (.c (j:=0) rfl .n) ?_)
   rintro ⟨p218,c219⟩ -
   dsimp only [List.append_eq,List.nil_append,List.cons_append]
   refine zT 8 (by kernel_rfl) (zJ (by kernel_rfl) rfl rfl rfl rfl rfl sz43 rfl (.take (.take .nil)) ?_)
   refine zfa (by kernel_rfl)<|zf<|zI ?_
   have hz:=Big.add_lt hst hab
   exact zD Try.results45 (p218,c219) trivial (zu 0 ty43 rfl rfl (.take (.take .nil))) (by rw [hz]) (ho:=(.n:PickO _ _ _)) ((.e (j:=0) rfl (by rw [hz]) .n):SelR _ _ _)
theorem zEe {x1:Int} {x2:Int} {p1:Option Addr} {c1:Nat} {p2:Option Addr} {c2:Nat} (hb1:Big.ln x1≤1099511627776) (hb2:Big.ln x2≤1099511627776):Con Try.prog 45 [.agg #[.bool (decide ((x1)<0)),.slice (p1) ((Big.digs ((x1).natAbs)).length) (c1)],.agg #[.bool (decide ((x2)<0)),.slice (p2) ((Big.digs ((x2).natAbs)).length) (c2)]] [] [slF (rI .u32) (p1) (c1) (Big.digs ((x1).natAbs)),slF (rI .u32) (p2) (c2) (Big.digs ((x2).natAbs))] (Y:=(Option Addr)×(Nat)) (fun y=>True) (fun y=> .agg #[.bool (decide ((x1+x2)<0)),.slice (y.1) ((Big.digs ((x1+x2).natAbs)).length) (y.2)]) (fun y=>[]) (fun y=>[slF (rI .u32) (y.1) (y.2) (Big.digs ((x1+x2).natAbs))]):=by
  have h:= @zNd (decide ((x1)<0)) p1 (Big.digs (x1).natAbs).length c1 (Big.digs (x1).natAbs) (decide ((x2)<0)) p2 (Big.digs (x2).natAbs).length c2 (Big.digs (x2).natAbs) rfl rfl hb1 hb2
  rw [Big.raw_big,Big.raw_big] at h
  exact h
theorem zFe {w1:Wd} {w2:Wd} {x1:Int} {x2:Int} (hb1:Big.ln x1≤1099511627776) (hb2:Big.ln x2≤1099511627776):Con Try.prog 45 [.agg #[w1.b,w1.l],.agg #[w2.b,w2.l]] [] [zF w1 (x1),zF w2 (x2)] (Y:=(Wd)) (fun y=>True) (fun y=> .agg #[y.b,y.l]) (fun y=>[]) (fun y=>[zF y (x1+x2)]):=by
  exact zWb (zAc (fun p1 c1 p2 c2=>zEe hb1 hb2))
theorem zOd {s:Bool} {p1:Option Addr} {n1:Nat} {c1:Nat} {l1:List Int} {t:Bool} {p2:Option Addr} {n2:Nat} {c2:Nat} {l2:List Int} (hn1:l1.length=n1) (hn2:l2.length=n2) (hm1:n1≤1099511627776) (hm2:n2≤1099511627776):Con Try.prog 84 [.agg #[.bool s,.slice p1 n1 c1],.agg #[.bool t,.slice p2 n2 c2]] [] [slF (rI .u32) p1 c1 l1,slF (rI .u32) p2 c2 l2] (Y:=(Option Addr)×Nat) (fun y=>True) (fun y=> .agg #[.bool (decide ((Big.raw s l1 - Big.raw t l2)<0)),.slice (y.1) ((Big.digs ((Big.raw s l1 - Big.raw t l2).natAbs)).length) (y.2)]) (fun y=>[]) (fun y=>[slF (rI .u32) (y.1) (y.2) (Big.digs ((Big.raw s l1 - Big.raw t l2).natAbs))]):=by
 refine zr Try.func84 rfl rfl rfl (fun c=> ?_)
 show RunC _ _ _ _ _ [(0,.agg #[.bool s,.slice p1 n1 c1]),(1,.agg #[.bool t,.slice p2 n2 c2])] [] [slF (rI .u32) p1 c1 l1,slF (rI .u32) p2 c2 l2]
 refine zea 0 rfl (fun hL0=> ?_)
 refine zdb 0 rfl (fun hE0=> ?_)
 refine zea 1 rfl (fun hL1=> ?_)
 refine zdb 1 rfl (fun hE1=> ?_)
 have hnn1:Big.nn l1:=fun g hg=>(zw.1 (hE0 g hg)).1
 have hnn2:Big.nn l2:=fun g hg=>(zw.1 (hE1 g hg)).1
 have hb1:Big.ln (Big.raw s l1)≤n1:=by have:=Big.zcb (s:=s) hnn1;omega
 have hb2:Big.ln (Big.raw t l2)≤n2:=by have:=Big.zcb (s:=t) hnn2;omega
 unfold Big.ln at hb1 hb2
 refine zi<|zc<|zQ rfl rfl (zV rfl rfl) (fun b1=> ?_)
 refine zQ rfl rfl (zV rfl rfl) (fun b2=> ?_)
 refine zQ rfl rfl (zE zr43 rfl) (fun b3=> ?_)
 refine zj<|zf<|zi<|zia (OW:=[boxA b3 43 [.bool false,.slice none 0 0]]) (O:=[boxA b2 43 [.bool t,.slice p2 n2 c2],boxA b1 43 [.bool s,.slice p1 n1 c1]]) 4 mixed (.then .ret) (by kernel_rfl)<|d_uw 0 rfl rfl (by kernel_rfl) (by kernel_rfl) (by kernel_rfl) rfl rfl (zh 2 ty43 rfl rfl (.take (.take .nil)))<|d_uw 1 rfl rfl (by kernel_rfl) (by kernel_rfl) (by kernel_rfl) rfl rfl (zh 1 ty43 rfl rfl (.take (.take .nil)))<|zT 2 (by kernel_rfl) (zU rfl rfl rfl rfl (.c rfl .n) ce65 (zMd (s:=t) (p:=p2) (n:=n2) (cap:=c2) (l:=l2) (hn:=by assumption) (hln:=by assumption)) (.c (j:=1) rfl .n) ?_)
 rintro ⟨p24,c25⟩ -
 dsimp only [List.append_eq,List.nil_append,List.cons_append]
 refine zT 3 (by kernel_rfl) (zU rfl rfl rfl rfl (.c rfl (.c rfl .n)) ce45 (zNd (s:=s) (p1:=p1) (n1:=n1) (c1:=c1) (l1:=l1) (t:=decide ((- Big.raw t l2)<0)) (p2:=p24) (n2:=(Big.digs ((- Big.raw t l2).natAbs)).length) (c2:=c25) (l2:=Big.digs ((- Big.raw t l2).natAbs)) (hn1:=by assumption) (hn2:=by first|rfl|assumption|omega|(rw [Int.natAbs_neg];omega)) (hm1:=by assumption) (hm2:=by first|rfl|assumption|omega|(rw [Int.natAbs_neg];omega))) (.c (j:=1) rfl (.c (j:=0) rfl .n)) ?_)
 rintro ⟨p36,c37⟩ -
 dsimp only [List.append_eq,List.nil_append,List.cons_append]
 refine zT 4 (by kernel_rfl) (zJ (by kernel_rfl) rfl rfl rfl rfl rfl sz43 rfl (.take (.take .nil)) ?_)
 refine zfa (by kernel_rfl)<|zf<|zI ?_
 have hz:Big.raw s l1+Big.raw (decide ((- Big.raw t l2)<0)) (Big.digs (- Big.raw t l2).natAbs)=Big.raw s l1 - Big.raw t l2:=by rw [Big.raw_big];omega
 exact zD Try.results84 (p36,c37) trivial (zu 0 ty43 rfl rfl (.take (.take .nil))) (by rw [hz]) (ho:=(.n:PickO _ _ _)) ((.e (j:=0) rfl (by rw [hz]) .n):SelR _ _ _)
theorem zIb {x1:Int} {x2:Int} {p1:Option Addr} {c1:Nat} {p2:Option Addr} {c2:Nat} (hb1:Big.ln x1≤1099511627776) (hb2:Big.ln x2≤1099511627776):Con Try.prog 84 [.agg #[.bool (decide ((x1)<0)),.slice (p1) ((Big.digs ((x1).natAbs)).length) (c1)],.agg #[.bool (decide ((x2)<0)),.slice (p2) ((Big.digs ((x2).natAbs)).length) (c2)]] [] [slF (rI .u32) (p1) (c1) (Big.digs ((x1).natAbs)),slF (rI .u32) (p2) (c2) (Big.digs ((x2).natAbs))] (Y:=(Option Addr)×(Nat)) (fun y=>True) (fun y=> .agg #[.bool (decide ((x1 - x2)<0)),.slice (y.1) ((Big.digs ((x1 - x2).natAbs)).length) (y.2)]) (fun y=>[]) (fun y=>[slF (rI .u32) (y.1) (y.2) (Big.digs ((x1 - x2).natAbs))]):=by
  have h:= @zOd (decide ((x1)<0)) p1 (Big.digs (x1).natAbs).length c1 (Big.digs (x1).natAbs) (decide ((x2)<0)) p2 (Big.digs (x2).natAbs).length c2 (Big.digs (x2).natAbs) rfl rfl hb1 hb2
  rw [Big.raw_big,Big.raw_big] at h
  exact h
theorem zgf {s:Bool} {p1:Option Addr} {n1:Nat} {c1:Nat} {l1:List Int} {t:Bool} {p2:Option Addr} {n2:Nat} {c2:Nat} {l2:List Int} (hn1:l1.length=n1) (hn2:l2.length=n2) (hm1:n1≤1099511627776) (hm2:n2≤1099511627776):Con Try.prog 46 [.agg #[.bool s,.slice p1 n1 c1],.agg #[.bool t,.slice p2 n2 c2]] [] [slF (rI .u32) p1 c1 l1,slF (rI .u32) p2 c2 l2] (Y:=(Option Addr)×Nat) (fun y=>True) (fun y=> .agg #[.bool (decide ((Big.raw s l1*Big.raw t l2)<0)),.slice (y.1) ((Big.digs ((Big.raw s l1*Big.raw t l2).natAbs)).length) (y.2)]) (fun y=>[]) (fun y=>[slF (rI .u32) (y.1) (y.2) (Big.digs ((Big.raw s l1*Big.raw t l2).natAbs))]):=by
 refine zr Try.func46 rfl rfl rfl (fun c=> ?_)
 show RunC _ _ _ _ _ [(0,.agg #[.bool s,.slice p1 n1 c1]),(1,.agg #[.bool t,.slice p2 n2 c2])] [] [slF (rI .u32) p1 c1 l1,slF (rI .u32) p2 c2 l2]
 refine zea 0 rfl (fun hL0=> ?_)
 refine zdb 0 rfl (fun hE0=> ?_)
 refine zea 1 rfl (fun hL1=> ?_)
 refine zdb 1 rfl (fun hE1=> ?_)
 have hnn1:Big.nn l1:=fun g hg=>(zw.1 (hE0 g hg)).1
 have hnn2:Big.nn l2:=fun g hg=>(zw.1 (hE1 g hg)).1
 have hb1:Big.ln (Big.raw s l1)≤n1:=by have:=Big.zcb (s:=s) hnn1;omega
 have hb2:Big.ln (Big.raw t l2)≤n2:=by have:=Big.zcb (s:=t) hnn2;omega
 unfold Big.ln at hb1 hb2
 have hoa:=Big.digs_ok (Big.raw s l1).natAbs
 have hob:=Big.digs_ok (Big.raw t l2).natAbs
 refine zi<|zc<|zQ rfl rfl (zV rfl rfl) (fun b1=> ?_)
 refine zQ rfl rfl (zV rfl rfl) (fun b2=> ?_)
 refine zQ rfl rfl (zE zr43 rfl) (fun b3=> ?_)
 refine zj<|zf<|zi<|zBa (.c (i:=2) rfl (.c (i:=1) rfl (.c (i:=0) rfl .n)))<|zia (OW:=[boxA b1 43 [.bool s,.slice p1 n1 c1],boxA b2 43 [.bool t,.slice p2 n2 c2]]) (O:=[boxA b3 43 [.bool false,.slice none 0 0]]) 4 mixed (.then .ret) (by kernel_rfl)<|d_uw 0 rfl rfl (by kernel_rfl) (by kernel_rfl) (by kernel_rfl) rfl rfl (zh 0 ty43 rfl rfl (.take (.take .nil)))<|d_uw 2 rfl rfl (by kernel_rfl) (by kernel_rfl) (by kernel_rfl) rfl rfl (zh 1 ty43 rfl rfl (.take (.take .nil)))<|zT 1 (by kernel_rfl) (zU rfl rfl rfl rfl (.c rfl .n) ce67 (zKa (s:=s) (p:=p1) (n:=n1) (cap:=c1) (l:=l1) (hn:=by assumption) (hln:=by assumption)) (.c (j:=0) rfl .n) ?_)
 rintro ⟨p24,c25⟩ -
 dsimp only [List.append_eq,List.nil_append,List.cons_append]
 refine zT 3 (by kernel_rfl) (zU rfl rfl rfl rfl (.c rfl .n) ce67 (zKa (s:=t) (p:=p2) (n:=n2) (cap:=c2) (l:=l2) (hn:=by assumption) (hln:=by assumption)) (.c (j:=2) rfl .n) ?_)
 rintro ⟨p26,c27⟩ -
 dsimp only [List.append_eq,List.nil_append,List.cons_append]
 refine zT 4 (by kernel_rfl) (zJ (by kernel_rfl) rfl rfl rfl rfl rfl sz43 rfl (.take (.take .nil)) ?_)
 refine zOa (zoa (i:=1) rfl)<|zT 5 (by kernel_rfl) (zJ (by kernel_rfl) rfl rfl rfl rfl rfl sz43 rfl (.take (.take .nil)) ?_)
 refine zfa (by kernel_rfl)<|zf<|zi<|zc<|r_pv rfl rfl (zg Try.underlying43 rfl sz41 rfl rfl)<|r_u rfl rfl (ze 1 ty41 rfl rfl rfl)<|r_pv rfl rfl (zK Try.underlying41 rfl)<|r_pv rfl rfl (zg Try.underlying43 rfl sz41 rfl rfl)<|r_u rfl rfl (ze 0 ty41 rfl rfl rfl)<|r_pv rfl rfl (zK Try.underlying41 rfl)<|r_pv rfl rfl (zz (z:=(((((Big.digs ((Big.raw s l1).natAbs)).length)+((Big.digs ((Big.raw t l2).natAbs)).length)):Nat):Int)) rfl rfl (w64 (by omega)))<|zxa rfl rfl (zWa (r:=rI .u32) (k:=(((Big.digs ((Big.raw s l1).natAbs)).length)+((Big.digs ((Big.raw t l2).natAbs)).length))) (x0:=0) (γ0:=()) Try.underlying41 inf101 rfl rfl rfl rfl (by omega) (by omega) rfl (fun _ _=>by exact zw.2 (by decide)) (by decide)) (fun b8 _=> ?_)
 refine r_pv rfl rfl (zd rfl)<|zj<|zf<|zi<|zi<|zc<|r_pv rfl rfl (zd rfl)<|zj<|zf<|zB<|zna (X:=Nat×(List Int)) (fun x:Nat×(List Int)=>x.1≤(Big.digs (Big.raw s l1).natAbs).length∧x.2.length=(Big.digs (Big.raw s l1).natAbs).length+(Big.digs (Big.raw t l2).natAbs).length∧Big.okL x.2∧(∀k,x.1+(Big.digs (Big.raw t l2).natAbs).length≤k→x.2.getD k 0=0)∧Big.valL x.2=Big.valL ((Big.digs (Big.raw s l1).natAbs).take x.1)*Big.valL (Big.digs (Big.raw t l2).natAbs)) (fun x=>[(6,.int .i64 ((x.1:Nat):Int)),(5,.slice (some ⟨b8,0,none⟩) (((Big.digs ((Big.raw s l1).natAbs)).length)+((Big.digs ((Big.raw t l2).natAbs)).length)) (((Big.digs ((Big.raw s l1).natAbs)).length)+((Big.digs ((Big.raw t l2).natAbs)).length))),(4,.pointer (some ⟨b3,0,none⟩)),(3,.pointer (some ⟨b2,0,none⟩)),(2,.pointer (some ⟨b1,0,none⟩))]) (fun x=>[rowA 101 (rI .u32) (some ⟨b8,0,none⟩) (((Big.digs ((Big.raw s l1).natAbs)).length)+((Big.digs ((Big.raw t l2).natAbs)).length)) (x.2),boxA b2 43 [.bool (decide ((Big.raw t l2)<0)),.slice p26 ((Big.digs ((Big.raw t l2).natAbs)).length) c27],boxA b1 43 [.bool (decide ((Big.raw s l1)<0)),.slice p24 ((Big.digs ((Big.raw s l1).natAbs)).length) c25],boxA b3 43 [.bool false,.slice none 0 0]]) (fun x=>[slF (rI .u32) p26 c27 (Big.digs ((Big.raw t l2).natAbs)),slF (rI .u32) p24 c25 (Big.digs ((Big.raw s l1).natAbs)),slF (rI .u32) p1 c1 l1,slF (rI .u32) p2 c2 l2]) (fun x:Nat×(List Int)=>(Big.digs (Big.raw s l1).natAbs).length - x.1) (0,List.replicate ((Big.digs (Big.raw s l1).natAbs).length+(Big.digs (Big.raw t l2).natAbs).length) 0) (show 0≤(Big.digs (Big.raw s l1).natAbs).length∧(List.replicate ((Big.digs (Big.raw s l1).natAbs).length+(Big.digs (Big.raw t l2).natAbs).length) 0).length=(Big.digs (Big.raw s l1).natAbs).length+(Big.digs (Big.raw t l2).natAbs).length∧Big.okL (List.replicate ((Big.digs (Big.raw s l1).natAbs).length+(Big.digs (Big.raw t l2).natAbs).length) 0)∧(∀k,0+(Big.digs (Big.raw t l2).natAbs).length≤k→(List.replicate ((Big.digs (Big.raw s l1).natAbs).length+(Big.digs (Big.raw t l2).natAbs).length) 0).getD k 0=0)∧Big.valL (List.replicate ((Big.digs (Big.raw s l1).natAbs).length+(Big.digs (Big.raw t l2).natAbs).length) 0)=Big.valL ((Big.digs (Big.raw s l1).natAbs).take 0)*Big.valL (Big.digs (Big.raw t l2).natAbs) from by exact ⟨by omega,by simp,Big.okL_zeros _,fun k _=>Big.getD_zeros _ k,by simp [Big.valL_zeros,Big.valL]⟩) ((.e rfl (by first|rfl|(congr 1;omega)|simp_all) (.of rfl)):SubM _ _) (ho:=((.e (i:=0) rfl (by first|rfl|(congr 1;omega)|simp_all) (.of [0,0,0] rfl)):PickO _ _ _)) ((.of [0,1,2,3] rfl):SelR _ _ _) ?_
 rintro ⟨i,os⟩ hI
 replace hI:i≤(Big.digs (Big.raw s l1).natAbs).length∧os.length=(Big.digs (Big.raw s l1).natAbs).length+(Big.digs (Big.raw t l2).natAbs).length∧Big.okL os∧(∀k,i+(Big.digs (Big.raw t l2).natAbs).length≤k→os.getD k 0=0)∧Big.valL os=Big.valL ((Big.digs (Big.raw s l1).natAbs).take i)*Big.valL (Big.digs (Big.raw t l2).natAbs):=hI
 try dsimp only
 obtain ⟨hi,hol,hok,hz,hv⟩:=hI
 have hg1:=Big.okL_getD hoa i
 refine zi<|zi<|zc<|r_pv rfl rfl (zb rfl)<|r_pv rfl rfl (zg Try.underlying43 rfl sz41 rfl rfl)<|r_u rfl rfl (ze 2 ty41 rfl rfl rfl)<|r_pv rfl rfl (zK Try.underlying41 rfl)<|r_pv rfl rfl (zW rfl rfl)<|zj<|zf<|zC rfl (fun h9=> ?_) (fun h9=> ?_)
 ·
  refine zy<|zf<|zi<|zB<|zi<|zc<|r_pv rfl rfl (zd rfl)<|zj<|zf<|zi<|zi<|zc<|r_pv rfl rfl (zd rfl)<|zj<|zf<|zB<|zna (X:=Nat×(List Int)×Int) (fun x:Nat×(List Int)×Int=>x.1≤(Big.digs (Big.raw t l2).natAbs).length∧x.2.1.length=(Big.digs (Big.raw s l1).natAbs).length+(Big.digs (Big.raw t l2).natAbs).length∧Big.okL x.2.1∧0≤x.2.2∧x.2.2<1000000000∧(∀k,i+(Big.digs (Big.raw t l2).natAbs).length≤k→x.2.1.getD k 0=0)∧Big.valL x.2.1+Big.pw (i+x.1)*x.2.2=Big.valL ((Big.digs (Big.raw s l1).natAbs).take i)*Big.valL (Big.digs (Big.raw t l2).natAbs)+Big.pw i*(Big.digs (Big.raw s l1).natAbs).getD i 0*Big.valL ((Big.digs (Big.raw t l2).natAbs).take x.1)) (fun x=>[(7,.int .u64 (x.2.2)),(8,.int .i64 ((x.1:Nat):Int)),(6,.int .i64 ((i:Nat):Int)),(5,.slice (some ⟨b8,0,none⟩) (((Big.digs ((Big.raw s l1).natAbs)).length)+((Big.digs ((Big.raw t l2).natAbs)).length)) (((Big.digs ((Big.raw s l1).natAbs)).length)+((Big.digs ((Big.raw t l2).natAbs)).length))),(4,.pointer (some ⟨b3,0,none⟩)),(3,.pointer (some ⟨b2,0,none⟩)),(2,.pointer (some ⟨b1,0,none⟩))]) (fun x=>[rowA 101 (rI .u32) (some ⟨b8,0,none⟩) (((Big.digs ((Big.raw s l1).natAbs)).length)+((Big.digs ((Big.raw t l2).natAbs)).length)) (x.2.1),boxA b2 43 [.bool (decide ((Big.raw t l2)<0)),.slice p26 ((Big.digs ((Big.raw t l2).natAbs)).length) c27],boxA b1 43 [.bool (decide ((Big.raw s l1)<0)),.slice p24 ((Big.digs ((Big.raw s l1).natAbs)).length) c25],boxA b3 43 [.bool false,.slice none 0 0]]) (fun x=>[slF (rI .u32) p26 c27 (Big.digs ((Big.raw t l2).natAbs)),slF (rI .u32) p24 c25 (Big.digs ((Big.raw s l1).natAbs)),slF (rI .u32) p1 c1 l1,slF (rI .u32) p2 c2 l2]) (fun x:Nat×(List Int)×Int=>(Big.digs (Big.raw t l2).natAbs).length - x.1) (0,os,0) (show 0≤(Big.digs (Big.raw t l2).natAbs).length∧os.length=(Big.digs (Big.raw s l1).natAbs).length+(Big.digs (Big.raw t l2).natAbs).length∧Big.okL os∧0≤0∧0<1000000000∧(∀k,i+(Big.digs (Big.raw t l2).natAbs).length≤k→os.getD k 0=0)∧Big.valL os+Big.pw (i+0)*0=Big.valL ((Big.digs (Big.raw s l1).natAbs).take i)*Big.valL (Big.digs (Big.raw t l2).natAbs)+Big.pw i*(Big.digs (Big.raw s l1).natAbs).getD i 0*Big.valL ((Big.digs (Big.raw t l2).natAbs).take 0) from by exact ⟨by omega,hol,hok,by decide,by decide,hz,by rw [hv];simp [Big.valL]⟩) ((.c rfl (.e rfl (by first|rfl|(congr 1;omega)|simp_all) (.of rfl))):SubM _ _) (ho:=((.of [0,0,0,0] rfl):PickO _ _ _)) ((.of [0,1,2,3] rfl):SelR _ _ _) ?_
  rintro ⟨j,os2,cy⟩ hJ
  replace hJ:j≤(Big.digs (Big.raw t l2).natAbs).length∧os2.length=(Big.digs (Big.raw s l1).natAbs).length+(Big.digs (Big.raw t l2).natAbs).length∧Big.okL os2∧0≤cy∧cy<1000000000∧(∀k,i+(Big.digs (Big.raw t l2).natAbs).length≤k→os2.getD k 0=0)∧Big.valL os2+Big.pw (i+j)*cy=Big.valL ((Big.digs (Big.raw s l1).natAbs).take i)*Big.valL (Big.digs (Big.raw t l2).natAbs)+Big.pw i*(Big.digs (Big.raw s l1).natAbs).getD i 0*Big.valL ((Big.digs (Big.raw t l2).natAbs).take j):=hJ
  try dsimp only
  obtain ⟨hj,hol2,hok2,hcy0,hcy1,hz2,hv2⟩:=hJ
  have hg2:=Big.okL_getD hob j
  have hg3:=Big.okL_getD hok2 (i+j)
  have hpq:=Big.mul_lim hg1 hg2
  refine zi<|zi<|zc<|r_pv rfl rfl (zb rfl)<|r_pv rfl rfl (zg Try.underlying43 rfl sz41 rfl rfl)<|r_u rfl rfl (ze 1 ty41 rfl rfl rfl)<|r_pv rfl rfl (zK Try.underlying41 rfl)<|r_pv rfl rfl (zW rfl rfl)<|zj<|zf<|zC rfl (fun h10=> ?_) (fun h10=> ?_)
  ·
   refine zy<|zf<|zi<|zB<|zi<|zia (OW:=[]) (O:=[rowA 101 (rI .u32) (some ⟨b8,0,none⟩) (((Big.digs ((Big.raw s l1).natAbs)).length)+((Big.digs ((Big.raw t l2).natAbs)).length)) os2,boxA b2 43 [.bool (decide ((Big.raw t l2)<0)),.slice p26 ((Big.digs ((Big.raw t l2).natAbs)).length) c27],boxA b1 43 [.bool (decide ((Big.raw s l1)<0)),.slice p24 ((Big.digs ((Big.raw s l1).natAbs)).length) c25],boxA b3 43 [.bool false,.slice none 0 0]]) 100000 mixed (.then (.block (.then (.then (.block (.then (.block (.then (.then (.block (.then .ret))))))))))) (by kernel_rfl)<|d_pv 0 rfl rfl (by kernel_rfl) (by kernel_rfl) rfl rfl (zb rfl)<|d_pv 1 rfl rfl (by kernel_rfl) (by kernel_rfl) rfl rfl (zb rfl)<|d_pv 2 rfl rfl (by kernel_rfl) (by kernel_rfl) rfl rfl (zb rfl)<|d_pv 3 rfl rfl (by kernel_rfl) (by kernel_rfl) rfl rfl (zz (z:=(((i+j):Nat):Int)) rfl rfl (w64 (by omega)))<|d_pv 4 rfl rfl (by kernel_rfl) (by kernel_rfl) rfl rfl (zP (j:=(i+j)) Try.underlying41 sz101 rfl rfl rfl (by omega))<|d_vl 5 rfl rfl (by kernel_rfl) (by kernel_rfl) rfl rfl (zaa 0 (i+j) rfl ty101 rfl rfl (gD (d:=0) (by omega)) rfl) (fun _ hok11=> ?_)
   replace hok11:=zw.1 hok11
   refine d_pv 6 rfl rfl (by kernel_rfl) (by kernel_rfl) rfl rfl (zx (z:=(os2.getD (i+j) 0)) rfl (by rw [Try.underlying101];rfl) Try.underlying100 (wu64 (by omega)))<|d_pv 7 rfl rfl (by kernel_rfl) (by kernel_rfl) rfl rfl (zg Try.underlying43 rfl sz41 rfl rfl)<|d_u 8 rfl rfl (by kernel_rfl) (by kernel_rfl) rfl rfl (ze 2 ty41 rfl rfl rfl)<|d_pv 9 rfl rfl (by kernel_rfl) (by kernel_rfl) rfl rfl (zb rfl)<|zqa (x0:=((Big.digs ((Big.raw s l1).natAbs)).getD i 0)) 10 rfl rfl (by kernel_rfl) (by kernel_rfl) 1 i rfl Try.underlying41 sz101 rfl rfl rfl (by first|rfl|assumption|(simp;omega)|omega) rfl rfl (gD (d:=0) (by omega)) (fun b12 o13 hok14=> ?_)
   replace hok14:=zw.1 hok14
   refine d_u 11 rfl rfl (by kernel_rfl) (by kernel_rfl) rfl rfl (zn (j:=0) 0 ty101 rfl rfl rfl rfl)<|d_pv 12 rfl rfl (by kernel_rfl) (by kernel_rfl) rfl rfl (zx (z:=((Big.digs ((Big.raw s l1).natAbs)).getD i 0)) rfl (by rw [Try.underlying101];rfl) Try.underlying100 (wu64 (by omega)))<|d_pv 13 rfl rfl (by kernel_rfl) (by kernel_rfl) rfl rfl (zg Try.underlying43 rfl sz41 rfl rfl)<|d_u 14 rfl rfl (by kernel_rfl) (by kernel_rfl) rfl rfl (ze 1 ty41 rfl rfl rfl)<|d_pv 15 rfl rfl (by kernel_rfl) (by kernel_rfl) rfl rfl (zb rfl)<|zqa (x0:=((Big.digs ((Big.raw t l2).natAbs)).getD j 0)) 16 rfl rfl (by kernel_rfl) (by kernel_rfl) 1 j rfl Try.underlying41 sz101 rfl rfl rfl (by first|rfl|assumption|(simp;omega)|omega) rfl rfl (gD (d:=0) (by omega)) (fun b15 o16 hok17=> ?_)
   replace hok17:=zw.1 hok17
   refine d_u 17 rfl rfl (by kernel_rfl) (by kernel_rfl) rfl rfl (zn (j:=0) 0 ty101 rfl rfl rfl rfl)<|d_pv 18 rfl rfl (by kernel_rfl) (by kernel_rfl) rfl rfl (zx (z:=((Big.digs ((Big.raw t l2).natAbs)).getD j 0)) rfl (by rw [Try.underlying101];rfl) Try.underlying100 (wu64 (by omega)))<|d_pv 19 rfl rfl (by kernel_rfl) (by kernel_rfl) rfl rfl (zga (z:=(((Big.digs ((Big.raw s l1).natAbs)).getD i 0)*((Big.digs ((Big.raw t l2).natAbs)).getD j 0))) rfl rfl (wu64 (by omega)))<|d_pv 20 rfl rfl (by kernel_rfl) (by kernel_rfl) rfl rfl (zz (z:=((os2.getD (i+j) 0)+(((Big.digs ((Big.raw s l1).natAbs)).getD i 0)*((Big.digs ((Big.raw t l2).natAbs)).getD j 0)))) rfl rfl (wu64 (by omega)))<|d_pv 21 rfl rfl (by kernel_rfl) (by kernel_rfl) rfl rfl (zb rfl)<|d_pv 22 rfl rfl (by kernel_rfl) (by kernel_rfl) rfl rfl (zz (z:=(((os2.getD (i+j) 0)+(((Big.digs ((Big.raw s l1).natAbs)).getD i 0)*((Big.digs ((Big.raw t l2).natAbs)).getD j 0)))+cy)) rfl rfl (wu64 (by omega)))<|d_pv 23 rfl rfl (by kernel_rfl) (by kernel_rfl) rfl rfl (zd rfl)<|zfa (by kernel_rfl)<|zf<|zi<|zc<|r_pv rfl rfl (zb rfl)<|r_pv rfl rfl (zb rfl)<|r_pv rfl rfl (zb rfl)<|r_pv rfl rfl (zz (z:=(((i+j):Nat):Int)) rfl rfl (w64 (by omega)))<|r_pv rfl rfl (zb rfl)<|r_pv rfl rfl (zFa (z:=((((os2.getD (i+j) 0)+(((Big.digs ((Big.raw s l1).natAbs)).getD i 0)*((Big.digs ((Big.raw t l2).natAbs)).getD j 0)))+cy)%1000000000)) rfl rfl (by omega) (remN (by omega) (by omega)))<|r_pv rfl rfl (zx (z:=((((os2.getD (i+j) 0)+(((Big.digs ((Big.raw s l1).natAbs)).getD i 0)*((Big.digs ((Big.raw t l2).natAbs)).getD j 0)))+cy)%1000000000)) rfl (by rw [Try.underlying100];rfl) Try.underlying101 (wu32 (by omega)))<|r_pv rfl rfl (zP (j:=(i+j)) Try.underlying41 sz101 rfl rfl rfl (by omega))<|zya 0 rfl rfl rfl (zN (j:=(i+j)) (x0:=((((os2.getD (i+j) 0)+(((Big.digs ((Big.raw s l1).natAbs)).getD i 0)*((Big.digs ((Big.raw t l2).natAbs)).getD j 0)))+cy)%1000000000)) (γ0:=()) rfl rfl (by first|omega|(rw [List.length_map];omega)|(simp only [List.length_set];omega)|(simp;omega)) rfl rfl sz101 (fun _ _=>by exact zw.2 (by omega))) (fun _=> .z) (fun _ _=> ?_)
   refine zj<|zf<|zc<|r_pv rfl rfl (zb rfl)<|r_pv rfl rfl (zHa (z:=((((os2.getD (i+j) 0)+(((Big.digs ((Big.raw s l1).natAbs)).getD i 0)*((Big.digs ((Big.raw t l2).natAbs)).getD j 0)))+cy) / 1000000000)) rfl rfl (by omega) (by rw [quoN (z:=((((os2.getD (i+j) 0)+(((Big.digs ((Big.raw s l1).natAbs)).getD i 0)*((Big.digs ((Big.raw t l2).natAbs)).getD j 0)))+cy) / 1000000000)) (by omega) (by omega)];exact wu64 (by omega)))<|r_pv rfl rfl (zd rfl)<|zj<|zS<|zf<|zc<|r_pv rfl rfl (zb rfl)<|r_pv rfl rfl (zz (z:=(((j+1):Nat):Int)) rfl rfl (w64 (by omega)))<|r_pv rfl rfl (zd rfl)<|zj<|zZ ((j+1),os2.set (i+j) ((os2.getD (i+j) 0+(Big.digs (Big.raw s l1).natAbs).getD i 0*(Big.digs (Big.raw t l2).natAbs).getD j 0+cy)%1000000000),(os2.getD (i+j) 0+(Big.digs (Big.raw s l1).natAbs).getD i 0*(Big.digs (Big.raw t l2).natAbs).getD j 0+cy) / 1000000000) (show (j+1)≤(Big.digs (Big.raw t l2).natAbs).length∧(os2.set (i+j) ((os2.getD (i+j) 0+(Big.digs (Big.raw s l1).natAbs).getD i 0*(Big.digs (Big.raw t l2).natAbs).getD j 0+cy)%1000000000)).length=(Big.digs (Big.raw s l1).natAbs).length+(Big.digs (Big.raw t l2).natAbs).length∧Big.okL (os2.set (i+j) ((os2.getD (i+j) 0+(Big.digs (Big.raw s l1).natAbs).getD i 0*(Big.digs (Big.raw t l2).natAbs).getD j 0+cy)%1000000000))∧0≤((os2.getD (i+j) 0+(Big.digs (Big.raw s l1).natAbs).getD i 0*(Big.digs (Big.raw t l2).natAbs).getD j 0+cy) / 1000000000)∧((os2.getD (i+j) 0+(Big.digs (Big.raw s l1).natAbs).getD i 0*(Big.digs (Big.raw t l2).natAbs).getD j 0+cy) / 1000000000)<1000000000∧(∀k,i+(Big.digs (Big.raw t l2).natAbs).length≤k→(os2.set (i+j) ((os2.getD (i+j) 0+(Big.digs (Big.raw s l1).natAbs).getD i 0*(Big.digs (Big.raw t l2).natAbs).getD j 0+cy)%1000000000)).getD k 0=0)∧Big.valL (os2.set (i+j) ((os2.getD (i+j) 0+(Big.digs (Big.raw s l1).natAbs).getD i 0*(Big.digs (Big.raw t l2).natAbs).getD j 0+cy)%1000000000))+Big.pw (i+(j+1))*((os2.getD (i+j) 0+(Big.digs (Big.raw s l1).natAbs).getD i 0*(Big.digs (Big.raw t l2).natAbs).getD j 0+cy) / 1000000000)=Big.valL ((Big.digs (Big.raw s l1).natAbs).take i)*Big.valL (Big.digs (Big.raw t l2).natAbs)+Big.pw i*(Big.digs (Big.raw s l1).natAbs).getD i 0*Big.valL ((Big.digs (Big.raw t l2).natAbs).take (j+1)) from by exact ⟨by omega,by simpa using hol2,Big.okL_set hok2 (by omega) (by omega),by omega,by omega,fun k hk=>by rw [Big.getD_set_ne (by omega)];exact hz2 k (by omega),Big.mul_step hv2 (by omega) (by omega)⟩) (by show (Big.digs (Big.raw t l2).natAbs).length - (j+1)<(Big.digs (Big.raw t l2).natAbs).length - j;omega) ((.e rfl (by first|rfl|(congr 1;omega)|simp_all) (.of rfl)):SubM _ _) (ho:=((.e (i:=0) rfl (by first|rfl|(congr 1;omega)|simp_all) (.of [0,0,0] rfl)):PickO _ _ _)) ((.of [2,3,4,5] rfl):SelR _ _ _)
  ·
   have hjb:j=(Big.digs (Big.raw t l2).natAbs).length:=by omega
   subst hjb
   have hv3:=hv2
   refine zha<|zm<|zm<|zv<|zf<|zc<|r_pv rfl rfl (zb rfl)<|r_pv rfl rfl (zb rfl)<|r_pv rfl rfl (zg Try.underlying43 rfl sz41 rfl rfl)<|r_u rfl rfl (ze 1 ty41 rfl rfl rfl)<|r_pv rfl rfl (zK Try.underlying41 rfl)<|r_pv rfl rfl (zz (z:=(((i+((Big.digs ((Big.raw t l2).natAbs)).length)):Nat):Int)) rfl rfl (w64 (by omega)))<|r_pv rfl rfl (zb rfl)<|r_pv rfl rfl (zx (z:=cy) rfl (by rw [Try.underlying100];rfl) Try.underlying101 (wu32 (by omega)))<|r_pv rfl rfl (zP (j:=(i+((Big.digs ((Big.raw t l2).natAbs)).length))) Try.underlying41 sz101 rfl rfl rfl (by omega))<|zya 0 rfl rfl rfl (zN (j:=(i+((Big.digs ((Big.raw t l2).natAbs)).length))) (x0:=cy) (γ0:=()) rfl rfl (by first|omega|(rw [List.length_map];omega)|(simp only [List.length_set];omega)|(simp;omega)) rfl rfl sz101 (fun _ _=>by exact zw.2 (by omega))) (fun _=> .z) (fun _ _=> ?_)
   refine zj<|zS<|zf<|zc<|r_pv rfl rfl (zb rfl)<|r_pv rfl rfl (zz (z:=(((i+1):Nat):Int)) rfl rfl (w64 (by omega)))<|r_pv rfl rfl (zd rfl)<|zj<|zZ ((i+1),os2.set (i+(Big.digs (Big.raw t l2).natAbs).length) cy) (show (i+1)≤(Big.digs (Big.raw s l1).natAbs).length∧(os2.set (i+(Big.digs (Big.raw t l2).natAbs).length) cy).length=(Big.digs (Big.raw s l1).natAbs).length+(Big.digs (Big.raw t l2).natAbs).length∧Big.okL (os2.set (i+(Big.digs (Big.raw t l2).natAbs).length) cy)∧(∀k,(i+1)+(Big.digs (Big.raw t l2).natAbs).length≤k→(os2.set (i+(Big.digs (Big.raw t l2).natAbs).length) cy).getD k 0=0)∧Big.valL (os2.set (i+(Big.digs (Big.raw t l2).natAbs).length) cy)=Big.valL ((Big.digs (Big.raw s l1).natAbs).take (i+1))*Big.valL (Big.digs (Big.raw t l2).natAbs) from by exact ⟨by omega,by simpa using hol2,Big.okL_set hok2 (by omega) (by omega),fun k hk=>by rw [Big.getD_set_ne (by omega)];exact hz2 k (by omega),Big.mul_round hv3 (by omega) (hz2 _ (Nat.le_refl _))⟩) (by show (Big.digs (Big.raw s l1).natAbs).length - (i+1)<(Big.digs (Big.raw s l1).natAbs).length - i;omega) ((.of rfl):SubM _ _) (ho:=((.e (i:=0) rfl (by first|rfl|(congr 1;omega)|simp_all) (.of [0,0,0] rfl)):PickO _ _ _)) ((.of [0,1,2,3] rfl):SelR _ _ _)
 ·
  have hia:i=(Big.digs (Big.raw s l1).natAbs).length:=by omega
  have hfin:Big.sg (decide (decide (Big.raw s l1<0)≠decide (Big.raw t l2<0))) (Big.valL os)=Big.raw s l1*Big.raw t l2:=by rw [hv,hia,List.take_length,Big.valL_digs,Big.valL_digs,←Int.natCast_mul,Big.sg_mul,Big.sg_big,Big.sg_big]
  refine zha<|zm<|zm<|zv<|zf<|zi<|zc<|r_pv rfl rfl (zg Try.underlying43 rfl sz4 rfl rfl)<|r_u rfl rfl (ze 2 ty4 rfl rfl rfl)<|r_pv rfl rfl (zg Try.underlying43 rfl sz4 rfl rfl)<|r_u rfl rfl (ze 1 ty4 rfl rfl rfl)<|r_pv rfl rfl (zNa Try.underlying4 rfl rfl)<|r_pv rfl rfl (zb rfl)<|zja 0 rfl .z<|zA rfl rfl (.c rfl (.c rfl .n)) ce68 (zEa (s:=decide (decide ((Big.raw s l1)<0)≠decide ((Big.raw t l2)<0))) (p:=some ⟨b8,0,none⟩) (n:=(((Big.digs ((Big.raw s l1).natAbs)).length)+((Big.digs ((Big.raw t l2).natAbs)).length))) (cap:=(((Big.digs ((Big.raw s l1).natAbs)).length)+((Big.digs ((Big.raw t l2).natAbs)).length))) (l:=os) (hn:=by first|rfl|assumption|omega|(unfold Big.ln;omega)|(simp;done)|(simp;omega)|(simp_all;done)) (ho:=by exact hok) (hln:=by first|rfl|assumption|omega|(unfold Big.ln;omega)|(simp;done)|(simp;omega)|(simp_all;done))) (.c (j:=0) rfl .n) ?_
  rintro ⟨p218,c219⟩ -
  dsimp only [List.append_eq,List.nil_append,List.cons_append]
  refine zo 3 rfl rfl rfl rfl rfl sz43 rfl (.take (.take .nil)) (.s (.s (.s .z)))<|zj<|zf<|zI ?_
  exact zD Try.results46 (p218,c219) trivial (zu 3 ty43 rfl rfl (.take (.take .nil))) (by rw [hfin]) (ho:=(.n:PickO _ _ _)) ((.e (j:=0) rfl (by rw [hfin]) .n):SelR _ _ _)
theorem zJb {x1:Int} {x2:Int} {p1:Option Addr} {c1:Nat} {p2:Option Addr} {c2:Nat} (hb1:Big.ln x1≤1099511627776) (hb2:Big.ln x2≤1099511627776):Con Try.prog 46 [.agg #[.bool (decide ((x1)<0)),.slice (p1) ((Big.digs ((x1).natAbs)).length) (c1)],.agg #[.bool (decide ((x2)<0)),.slice (p2) ((Big.digs ((x2).natAbs)).length) (c2)]] [] [slF (rI .u32) (p1) (c1) (Big.digs ((x1).natAbs)),slF (rI .u32) (p2) (c2) (Big.digs ((x2).natAbs))] (Y:=(Option Addr)×(Nat)) (fun y=>True) (fun y=> .agg #[.bool (decide ((x1*x2)<0)),.slice (y.1) ((Big.digs ((x1*x2).natAbs)).length) (y.2)]) (fun y=>[]) (fun y=>[slF (rI .u32) (y.1) (y.2) (Big.digs ((x1*x2).natAbs))]):=by
  have h:= @zgf (decide ((x1)<0)) p1 (Big.digs (x1).natAbs).length c1 (Big.digs (x1).natAbs) (decide ((x2)<0)) p2 (Big.digs (x2).natAbs).length c2 (Big.digs (x2).natAbs) rfl rfl hb1 hb2
  rw [Big.raw_big,Big.raw_big] at h
  exact h
theorem zmc {w1:Wd} {w2:Wd} {x1:Int} {x2:Int} (hb1:Big.ln x1≤1099511627776) (hb2:Big.ln x2≤1099511627776):Con Try.prog 46 [.agg #[w1.b,w1.l],.agg #[w2.b,w2.l]] [] [zF w1 (x1),zF w2 (x2)] (Y:=(Wd)) (fun y=>True) (fun y=> .agg #[y.b,y.l]) (fun y=>[]) (fun y=>[zF y (x1*x2)]):=by
  exact zWb (zAc (fun p1 c1 p2 c2=>zJb hb1 hb2))
end Go.Proofs.Ytefbbhiaalcjfaa.Sp
namespace Go.Proofs.Ytefbbhiaalcjfaa.Sp
open Go
set_option linter.unusedVariables false
set_option maxRecDepth 100000
set_option maxHeartbeats 1000000
theorem zAb {a:Nat} {d:Nat} {p0:Option Addr} {cap:Nat} (hb:(Big.digs a).length≤1099511627776) (hd:d<1000000000):Con Try.prog 94 [.slice p0 ((Big.digs a).length) cap,.int .u64 ((d:Nat):Int)] [] [slF (rI .u32) p0 cap (Big.digs a)] (Y:=(Option Addr)×Nat) (fun y=>True) (fun y=> .slice (y.1) ((Big.digs (a*d)).length) (y.2)) (fun y=>[]) (fun y=>[slF (rI .u32) (y.1) (y.2) (Big.digs (a*d))]):=by
 refine zr Try.func94 rfl rfl rfl (fun c=> ?_)
 show RunC _ _ _ _ _ [(0,.slice p0 ((Big.digs a).length) cap),(1,.int .u64 ((d:Nat):Int))] [] [slF (rI .u32) p0 cap (Big.digs a)]
 refine zea 0 rfl (fun hL0=> ?_)
 refine zi<|zc<|r_pv rfl rfl (zd rfl)<|zj<|zf<|zi<|zc<|zxa rfl rfl (zsa (rI .u32) Try.underlying41 inf101) (fun b1 _=> ?_)
 refine r_pv rfl rfl (zd rfl)<|zj<|zf<|zi<|zc<|r_pv rfl rfl (zd rfl)<|zj<|zf<|zi<|zi<|zc<|r_pv rfl rfl (zd rfl)<|zj<|zf<|zB<|zna (X:=Nat×(Option Addr)×Nat×(List Int)×Int) (fun x:Nat×(Option Addr)×Nat×(List Int)×Int=>Big.ScI (Big.digs a) (d:Int) x.1 x.2.2.2.1 x.2.2.2.2) (fun x=>[(6,.int .u64 (x.2.2.2.2)),(5,.slice (x.2.1) (x.2.2.2.1.length) (x.2.2.1)),(7,.int .i64 ((x.1:Nat):Int)),(4,.slice none 0 0),(0,.slice p0 ((Big.digs a).length) cap),(1,.int .u64 ((d:Nat):Int))]) (fun x=>[rowA 101 (rI .u32) (x.2.1) (x.2.2.1) (x.2.2.2.1)]) (fun x=>[slF (rI .u32) p0 cap (Big.digs a)]) (fun x:Nat×(Option Addr)×Nat×(List Int)×Int=>(Big.digs a).length - x.1) (0,some ⟨b1,0,none⟩,0,[],0) (show Big.ScI (Big.digs a) (d:Int) 0 ([]) 0 from by exact Big.ScI.start _ _) ((.c rfl (.e rfl (by first|rfl|(congr 1;omega)|simp_all) (.e rfl (by first|rfl|(congr 1;omega)|simp_all) (.of rfl)))):SubM _ _) (ho:=((.c (i:=0) rfl .n):PickO _ _ _)) ((.c (j:=0) rfl .n):SelR _ _ _) ?_
 rintro ⟨i,p,c,os,cy⟩ hI
 replace hI:Big.ScI (Big.digs a) (d:Int) i os cy:=hI
 try dsimp only
 have hi:=hI.le
 have hol:=hI.len
 have hc0:=hI.c0
 have hc1:=hI.c1
 have hg:=Big.okL_getD (Big.digs_ok a) i
 have hsl:=Big.sc_lim hg (show 0≤(d:Int)∧(d:Int)<1000000000 by omega) ⟨hc0,hc1⟩
 refine zi<|zi<|zc<|r_pv rfl rfl (zb rfl)<|r_pv rfl rfl (zb rfl)<|r_pv rfl rfl (zK Try.underlying41 rfl)<|r_pv rfl rfl (zW rfl rfl)<|zj<|zf<|zC rfl (fun h2=> ?_) (fun h2=> ?_)
 ·
  refine zy<|zf<|zi<|zB<|zi<|zc<|r_pv rfl rfl (zb rfl)<|r_pv rfl rfl (zb rfl)<|zO (x0:=((Big.digs a).getD i 0)) 0 i rfl Try.underlying41 sz101 rfl rfl rfl (by first|rfl|assumption|(simp;done)|(simp;omega)|omega) rfl rfl (gD (d:=0) (by omega)) (fun b3 o4 hok5=> ?_)
  replace hok5:=zw.1 hok5
  refine r_u rfl rfl (zn (j:=0) 0 ty101 rfl rfl rfl rfl)<|r_pv rfl rfl (zx (z:=((Big.digs a).getD i 0)) rfl (by rw [Try.underlying101];rfl) Try.underlying100 (wu64 (by omega)))<|r_pv rfl rfl (zb rfl)<|r_pv rfl rfl (zga (z:=(((Big.digs a).getD i 0)*((d:Nat):Int))) rfl rfl (wu64 (by omega)))<|r_pv rfl rfl (zb rfl)<|r_pv rfl rfl (zz (z:=((((Big.digs a).getD i 0)*((d:Nat):Int))+cy)) rfl rfl (wu64 (by omega)))<|r_pv rfl rfl (zd rfl)<|zj<|zf<|zi<|zc<|r_pv rfl rfl (zb rfl)<|r_pv rfl rfl (zb rfl)<|r_pv rfl rfl (zFa (z:=(((((Big.digs a).getD i 0)*((d:Nat):Int))+cy)%1000000000)) rfl rfl (by omega) (remN (by omega) (by omega)))<|r_pv rfl rfl (zx (z:=(((((Big.digs a).getD i 0)*((d:Nat):Int))+cy)%1000000000)) rfl (by rw [Try.underlying100];rfl) Try.underlying101 (wu32 (by omega)))<|zxa rfl rfl (zL (enc:=fun z:Int=>[.int .u32 z]) (ok:=InK .u32) (h1:=fun _=>rfl) (h2:=fun _=>rfl) (k:=1) Try.underlying41 inf101 rfl (by decide) (by decide) (by decide) (.c (x:=(((((Big.digs a).getD i 0)*((d:Nat):Int))+cy)%1000000000)) rfl rfl (fun _ _=>by exact zw.2 (by omega)) .n)) (fun b6 _=> ?_)
  refine zja 0 rfl .z<|zya 1 rfl rfl rfl (zva 0 rfl Try.underlying41 inf101 (by decide) rfl rfl (by first|rfl|assumption|(simp;done)|(simp;omega)|omega) rfl (by first|rfl|assumption|(simp;done)|(simp;omega)|omega) (by omega) (by omega)) (fun _=>(.s .z)) ?_
  rintro ⟨p7,c8⟩ -
  dsimp only [List.append_eq,List.nil_append,List.cons_append]
  refine r_pv rfl rfl (zd rfl)<|zj<|zf<|zc<|r_pv rfl rfl (zb rfl)<|r_pv rfl rfl (zHa (z:=(((((Big.digs a).getD i 0)*((d:Nat):Int))+cy) / 1000000000)) rfl rfl (by omega) (by rw [quoN (z:=(((((Big.digs a).getD i 0)*((d:Nat):Int))+cy) / 1000000000)) (by omega) (by omega)];exact wu64 (by omega)))<|r_pv rfl rfl (zd rfl)<|zj<|zS<|zf<|zc<|r_pv rfl rfl (zb rfl)<|r_pv rfl rfl (zz (z:=(((i+1):Nat):Int)) rfl rfl (w64 (by omega)))<|r_pv rfl rfl (zd rfl)<|zj<|zZ ((i+1),p7,c8,os++[((Big.digs a).getD i 0*(d:Int)+cy)%1000000000],((Big.digs a).getD i 0*(d:Int)+cy) / 1000000000) (show Big.ScI (Big.digs a) (d:Int) (i+1) (os++[((Big.digs a).getD i 0*(d:Int)+cy)%1000000000]) (((Big.digs a).getD i 0*(d:Int)+cy) / 1000000000) from by exact hI.step (Big.digs_ok a) (by omega) (by omega)) (by show (Big.digs a).length - (i+1)<(Big.digs a).length - i;omega) ((.e rfl (by first|rfl|(congr 1;omega)|simp_all) (.e rfl (by simp) (.of rfl))):SubM _ _) (ho:=((.e (i:=1) rfl (by first|rfl|(congr 1;omega)|simp_all) .n):PickO _ _ _)) ((.c (j:=2) rfl .n):SelR _ _ _)
 ·
  obtain ⟨hok2,hfin⟩:=hI.fin (by omega)
  refine zha<|zm<|zm<|zv<|zf<|zi<|zc<|r_pv rfl rfl (zb rfl)<|r_pv rfl rfl (zb rfl)<|r_pv rfl rfl (zx (z:=cy) rfl (by rw [Try.underlying100];rfl) Try.underlying101 (wu32 (by omega)))<|zxa rfl rfl (zL (enc:=fun z:Int=>[.int .u32 z]) (ok:=InK .u32) (h1:=fun _=>rfl) (h2:=fun _=>rfl) (k:=1) Try.underlying41 inf101 rfl (by decide) (by decide) (by decide) (.c (x:=cy) rfl rfl (fun _ _=>by exact zw.2 (by omega)) .n)) (fun b9 _=> ?_)
  refine zja 0 rfl .z<|zya 1 rfl rfl rfl (zva 0 rfl Try.underlying41 inf101 (by decide) rfl rfl (by first|rfl|assumption|(simp;done)|(simp;omega)|omega) rfl (by first|rfl|assumption|(simp;done)|(simp;omega)|omega) (by omega) (by omega)) (fun _=>(.s .z)) ?_
  rintro ⟨p10,c11⟩ -
  dsimp only [List.append_eq,List.nil_append,List.cons_append]
  refine zja 1 rfl (.s .z)<|zA rfl rfl (.c rfl (.c rfl .n)) ce68 (zEa (s:=false) (p:=p10) (n:=os.length+1) (cap:=c11) (l:=(os++([cy]))) (hn:=by first|rfl|omega|(simp;done)|(simp;omega)) (ho:=by exact hok2) (hln:=by first|rfl|omega|(simp;done)|(simp;omega))) (.c (j:=0) rfl .n) ?_
  rintro ⟨p212,c213⟩ -
  dsimp only [List.append_eq,List.nil_append,List.cons_append]
  refine r_pv rfl rfl (zwa Try.underlying43 rfl ty41 rfl rfl)<|r_pv rfl rfl (zd rfl)<|zj<|zf<|zI ?_
  have hz:(Big.sg false (Big.valL (os++[cy]))).natAbs=a*d:=by rw [hfin];exact Int.natAbs_natCast _
  exact zD Try.results94 (p212,c213) trivial (zq rfl) (by rw [hz]) (ho:=(.n:PickO _ _ _)) ((.e (j:=0) rfl (by rw [hz]) .n):SelR _ _ _)
theorem zdd {a:Nat} {d:Nat} {p0:Option Addr} {cap:Nat} (hb:(Big.digs a).length≤1099511627776) (hd:d<1000000000):Con Try.prog 95 [.slice p0 ((Big.digs a).length) cap,.int .u32 ((d:Nat):Int)] [] [slF (rI .u32) p0 cap (Big.digs a)] (Y:=(Option Addr)×Nat) (fun y=>True) (fun y=> .slice (y.1) ((Big.digs (a*1000000000+d)).length) (y.2)) (fun y=>[]) (fun y=>[slF (rI .u32) (y.1) (y.2) (Big.digs (a*1000000000+d))]):=by
 refine zr Try.func95 rfl rfl rfl (fun c=> ?_)
 show RunC _ _ _ _ _ [(0,.slice p0 ((Big.digs a).length) cap),(1,.int .u32 ((d:Nat):Int))] [] [slF (rI .u32) p0 cap (Big.digs a)]
 refine zea 0 rfl (fun hL0=> ?_)
 have hok2:Big.okL ([((d:Nat):Int)]++Big.digs a):=Big.okL_cons.2 ⟨by omega,Big.digs_ok a⟩
 have hz:(Big.sg false (Big.valL (((d:Nat):Int) :: Big.digs a))).natAbs=a*1000000000+d:=by rw [Big.sg_abs (Big.valL_nonneg (l:=((d:Nat):Int) :: Big.digs a) hok2)];simp only [Big.valL,Big.valL_digs];omega
 refine zi<|zc<|r_pv rfl rfl (zd rfl)<|zj<|zf<|zi<|zc<|r_pv rfl rfl (zb rfl)<|zxa rfl rfl (zL (enc:=fun z:Int=>[.int .u32 z]) (ok:=InK .u32) (h1:=fun _=>rfl) (h2:=fun _=>rfl) (k:=1) Try.underlying41 inf101 rfl (by decide) (by decide) (by decide) (.c (x:=((d:Nat):Int)) rfl rfl (fun _ _=>by exact zw.2 (by omega)) .n)) (fun b1 _=> ?_)
 refine r_pv rfl rfl (zb rfl)<|zya 0 rfl rfl rfl (zva 0 rfl Try.underlying41 inf101 (by decide) rfl rfl (by first|rfl|assumption|(simp;done)|(simp;omega)|omega) rfl (by first|rfl|assumption|(simp;done)|(simp;omega)|omega) (by omega) (by omega)) (fun _=> .z) ?_
 rintro ⟨p2,c3⟩ -
 dsimp only [List.append_eq,List.nil_append,List.cons_append]
 refine zja 0 rfl .z<|zA rfl rfl (.c rfl (.c rfl .n)) ce68 (zEa (s:=false) (p:=p2) (n:=1+((Big.digs a).length)) (cap:=c3) (l:=(([((d:Nat):Int)])++(Big.digs a))) (hn:=by first|rfl|omega|(simp;done)|(simp;omega)) (ho:=by exact hok2) (hln:=by first|rfl|omega|(simp;done)|(simp;omega))) (.c (j:=0) rfl .n) ?_
 rintro ⟨p24,c25⟩ -
 dsimp only [List.append_eq,List.nil_append,List.cons_append]
 refine r_pv rfl rfl (zwa Try.underlying43 rfl ty41 rfl rfl)<|r_pv rfl rfl (zd rfl)<|zj<|zf<|zI ?_
 exact zD Try.results95 (p24,c25) trivial (zq rfl) (by rw [hz]) (ho:=(.n:PickO _ _ _)) ((.e (j:=0) rfl (by rw [hz]) .n):SelR _ _ _)
theorem zDc {a:Nat} {mm:Nat} {p:Option Addr} {cap:Nat} (hb:(Big.digs a).length≤1099511627776) (hm0:0<mm) (hm1:mm≤1000000000):Con Try.prog 93 [.slice p ((Big.digs a).length) cap,.int .u64 ((mm:Nat):Int)] [] [slF (rI .u32) p cap (Big.digs a)] (Y:=(Option Addr)×Nat) (fun y=>True) (fun y=> .tuple #[.slice (y.1) ((Big.digs (a / mm)).length) (y.2),.int .u64 (((a%mm):Nat):Int)]) (fun y=>[]) (fun y=>[slF (rI .u32) (y.1) (y.2) (Big.digs (a / mm))]):=by
 refine zr Try.func93 rfl rfl rfl (fun c=> ?_)
 show RunC _ _ _ _ _ [(0,.slice p ((Big.digs a).length) cap),(1,.int .u64 ((mm:Nat):Int))] [] [slF (rI .u32) p cap (Big.digs a)]
 refine zea 0 rfl (fun hL0=> ?_)
 refine zi<|zc<|r_pv rfl rfl (zd rfl)<|r_pv rfl rfl (zd rfl)<|zj<|zf<|zi<|zc<|r_pv rfl rfl (zb rfl)<|r_pv rfl rfl (zK Try.underlying41 rfl)<|zxa rfl rfl (zWa (r:=rI .u32) (k:=(Big.digs a).length) (x0:=0) (γ0:=()) Try.underlying41 inf101 rfl rfl rfl rfl (by omega) (by omega) rfl (fun _ _=>by exact zw.2 (by decide)) (by decide)) (fun b1 _=> ?_)
 refine r_pv rfl rfl (zd rfl)<|zj<|zf<|zi<|zc<|r_pv rfl rfl (zd rfl)<|zj<|zf<|zi<|zi<|zc<|r_pv rfl rfl (zb rfl)<|r_pv rfl rfl (zK Try.underlying41 rfl)<|r_pv rfl rfl (zda (z:=((((Big.digs a).length:Nat):Int) - 1)) rfl rfl (w64 (by omega)))<|r_pv rfl rfl (zd rfl)<|zj<|zf<|zB<|zna (X:=Nat×(List Int)×(List Int)×Int) (fun x:Nat×(List Int)×(List Int)×Int=>x.2.1=List.replicate x.1 0++x.2.2.1∧Big.ShI (Big.digs a) (mm:Int) x.1 x.2.2.1 x.2.2.2) (fun x=>[(7,.int .u64 (x.2.2.2)),(8,.int .i64 (((x.1:Nat):Int) - 1)),(6,.slice (some ⟨b1,0,none⟩) ((Big.digs a).length) ((Big.digs a).length)),(5,.int .u64 0),(4,.slice none 0 0),(0,.slice p ((Big.digs a).length) cap),(1,.int .u64 ((mm:Nat):Int))]) (fun x=>[rowA 101 (rI .u32) (some ⟨b1,0,none⟩) ((Big.digs a).length) (x.2.1)]) (fun x=>[slF (rI .u32) p cap (Big.digs a)]) (fun x:Nat×(List Int)×(List Int)×Int=>x.1) ((Big.digs a).length,(List.replicate (Big.digs a).length 0),([]:List Int),(0:Int)) (show (List.replicate (Big.digs a).length 0)=List.replicate ((Big.digs a).length) 0++([]:List Int)∧Big.ShI (Big.digs a) (mm:Int) ((Big.digs a).length) ([]:List Int) (0:Int) from by exact ⟨by simp,Big.ShI.start (by omega)⟩) ((.e rfl (by first|rfl|(congr 1;omega)|simp_all) (.e rfl (by first|rfl|(congr 1;omega)|simp_all) (.of rfl))):SubM _ _) (ho:=((.e (i:=0) rfl (by first|rfl|(congr 1;omega)|simp_all) .n):PickO _ _ _)) ((.c (j:=0) rfl .n):SelR _ _ _) ?_
 rintro ⟨jj,os,qs,z⟩ hI
 replace hI:os=List.replicate jj 0++qs∧Big.ShI (Big.digs a) (mm:Int) jj qs z:=hI
 try dsimp only
 obtain ⟨hos,hS⟩:=hI
 have hz0:=hS.r0
 have hz1:=hS.r1
 have hkle:=hS.le
 refine zi<|zi<|zc<|r_pv rfl rfl (zb rfl)<|r_pv rfl rfl (zGa rfl rfl)<|zj<|zf<|zC rfl (fun h2=> ?_) (fun h2=> ?_)
 ·
  obtain ⟨k,rfl⟩:∃k,jj=k+1:=⟨jj - 1,by omega⟩
  have e3:(((((k+1):Nat):Int) - 1):Int)=((k:Nat):Int):=by omega
  rw [e3]
  have hosl:os.length=(Big.digs a).length:=by rw [hos,List.length_append,List.length_replicate,hS.len];omega
  have hg:=Big.okL_getD (Big.digs_ok a) k
  have hdg:=Big.sh_digit hz0 hz1 hg
  have hrm:=Int.emod_lt_of_pos (z*1000000000+(Big.digs a).getD k 0) (show 0<(mm:Int) by omega)
  have hrm0:=Int.emod_nonneg (z*1000000000+(Big.digs a).getD k 0) (show (mm:Int)≠0 by omega)
  refine zy<|zf<|zi<|zB<|zi<|zc<|r_pv rfl rfl (zb rfl)<|r_pv rfl rfl (zga (z:=(z*1000000000)) rfl rfl (wu64 (by omega)))<|r_pv rfl rfl (zb rfl)<|r_pv rfl rfl (zb rfl)<|zO (x0:=((Big.digs a).getD k 0)) 0 k rfl Try.underlying41 sz101 rfl rfl rfl (by first|rfl|assumption|(simp;done)|(simp;omega)|omega) rfl rfl (gD (d:=0) (by omega)) (fun b4 o5 hok6=> ?_)
  replace hok6:=zw.1 hok6
  refine r_u rfl rfl (zn (j:=0) 0 ty101 rfl rfl rfl rfl)<|r_pv rfl rfl (zx (z:=((Big.digs a).getD k 0)) rfl (by rw [Try.underlying101];rfl) Try.underlying100 (wu64 (by omega)))<|r_pv rfl rfl (zz (z:=((z*1000000000)+((Big.digs a).getD k 0))) rfl rfl (wu64 (by omega)))<|r_pv rfl rfl (zd rfl)<|zj<|zf<|zi<|zc<|r_pv rfl rfl (zb rfl)<|r_pv rfl rfl (zb rfl)<|r_pv rfl rfl (zb rfl)<|r_pv rfl rfl (zb rfl)<|r_pv rfl rfl (zHa (z:=(((z*1000000000)+((Big.digs a).getD k 0)) / ((mm:Nat):Int))) rfl rfl (by omega) (by rw [quoN (z:=(((z*1000000000)+((Big.digs a).getD k 0)) / ((mm:Nat):Int))) (by omega) (by omega)];exact wu64 (by omega)))<|r_pv rfl rfl (zx (z:=(((z*1000000000)+((Big.digs a).getD k 0)) / ((mm:Nat):Int))) rfl (by rw [Try.underlying100];rfl) Try.underlying101 (wu32 (by omega)))<|r_pv rfl rfl (zP (j:=k) Try.underlying41 sz101 rfl rfl rfl (by omega))<|zya 0 rfl rfl rfl (zN (j:=k) (x0:=(((z*1000000000)+((Big.digs a).getD k 0)) / ((mm:Nat):Int))) (γ0:=()) rfl rfl (by first|omega|(rw [List.length_map];omega)|(simp only [List.length_set];omega)|(simp;omega)) rfl rfl sz101 (fun _ _=>by exact zw.2 (by omega))) (fun _=> .z) (fun _ _=> ?_)
  refine zj<|zf<|zc<|r_pv rfl rfl (zb rfl)<|r_pv rfl rfl (zb rfl)<|r_pv rfl rfl (zFa (z:=(((z*1000000000)+((Big.digs a).getD k 0))%((mm:Nat):Int))) rfl rfl (by omega) (remN (by omega) (by omega)))<|r_pv rfl rfl (zd rfl)<|zj<|zS<|zf<|zc<|r_pv rfl rfl (zb rfl)<|r_pv rfl rfl (zda (z:=(((k:Nat):Int) - 1)) rfl rfl (w64 (by omega)))<|r_pv rfl rfl (zd rfl)<|zj<|zZ (k,(os.set k (((z*1000000000)+((Big.digs a).getD k 0)) / ((mm:Nat):Int))),((z*1000000000+(Big.digs a).getD k 0) / (mm:Int) :: qs),((z*1000000000+(Big.digs a).getD k 0)%(mm:Int))) (show (os.set k (((z*1000000000)+((Big.digs a).getD k 0)) / ((mm:Nat):Int)))=List.replicate k 0++((z*1000000000+(Big.digs a).getD k 0) / (mm:Int) :: qs)∧Big.ShI (Big.digs a) (mm:Int) k ((z*1000000000+(Big.digs a).getD k 0) / (mm:Int) :: qs) ((z*1000000000+(Big.digs a).getD k 0)%(mm:Int)) from by exact ⟨by rw [hos];exact Big.pad_set _,hS.step (Big.digs_ok a)⟩) (by show k<k+1;omega) ((.e rfl (by first|rfl|(congr 1;omega)|simp_all) (.of rfl)):SubM _ _) (ho:=((.c (i:=0) rfl .n):PickO _ _ _)) ((.c (j:=1) rfl .n):SelR _ _ _)
 ·
  have hj0:jj=0:=by omega
  have hS0:Big.ShI (Big.digs a) (mm:Int) 0 qs z:=hj0 ▸ hS
  obtain ⟨hf1,hf2⟩:=hS0.fin
  have hoq:os=qs:=by rw [hos,hj0];rfl
  have hok2:Big.okL os:=by rw [hoq];exact hS.ok
  have hosl:os.length=(Big.digs a).length:=by rw [hoq,hS0.len];omega
  have hz9:(Big.sg false (Big.valL os)).natAbs=a / mm:=by rw [hoq,Big.sg_abs (Big.valL_nonneg hS.ok),←Big.valL_trim,hf1,Big.valL_digs];exact Int.toNat_natCast _
  refine zha<|zm<|zm<|zv<|zf<|zi<|zc<|r_pv rfl rfl (zb rfl)<|zja 0 rfl .z<|zA rfl rfl (.c rfl (.c rfl .n)) ce68 (zEa (s:=false) (p:=some ⟨b1,0,none⟩) (n:=(Big.digs a).length) (cap:=(Big.digs a).length) (l:=os) (hn:=by first|rfl|omega|(simp;done)|(simp;omega)) (ho:=by exact hok2) (hln:=by first|rfl|omega|(simp;done)|(simp;omega))) (.c (j:=0) rfl .n) ?_
  rintro ⟨p27,c28⟩ -
  dsimp only [List.append_eq,List.nil_append,List.cons_append]
  refine r_pv rfl rfl (zwa Try.underlying43 rfl ty41 rfl rfl)<|r_pv rfl rfl (zb rfl)<|r_pv rfl rfl (zd rfl)<|r_pv rfl rfl (zd rfl)<|zj<|zf<|zI ?_
  exact zta Try.results93 (p27,c28) trivial (zq rfl) (zq rfl) (by rw [hz9,hf2]) (ho:=(.n:PickO _ _ _)) ((.e (j:=0) rfl (by rw [hz9]) .n):SelR _ _ _)
theorem zed {a:Nat} {p:Option Addr} {cap:Nat} (hb:(Big.digs a).length≤2):Con Try.prog 83 [.slice p ((Big.digs a).length) cap] [] [slF (rI .u32) p cap (Big.digs a)] (Y:=Unit) (fun y=>True) (fun y=> .int .u64 ((a:Nat):Int)) (fun y=>[]) (fun y=>[]):=by
 refine zr Try.func83 rfl rfl rfl (fun c=> ?_)
 show RunC _ _ _ _ _ [(0,.slice p ((Big.digs a).length) cap)] [] [slF (rI .u32) p cap (Big.digs a)]
 refine zea 0 rfl (fun hL0=> ?_)
 have hpv:=Big.pair_val hb
 have hg0:=Big.okL_getD (Big.digs_ok a) 0
 have hg1:=Big.okL_getD (Big.digs_ok a) 1
 refine zi<|zc<|r_pv rfl rfl (zd rfl)<|zj<|zf<|zi<|zc<|r_pv rfl rfl (zb rfl)<|zM rfl rfl (.c rfl (.c rfl .n)) ce85 (zQa (p:=p) (n:=(Big.digs a).length) (cap:=cap) (l:=Big.digs a) (i:=1) (hn:=by first|rfl|assumption|omega|(simp;done)|(simp;omega)|(simp_all;done)) (hi:=by first|rfl|assumption|omega|(simp;done)|(simp;omega)|(simp_all;done))) (.c (j:=0) rfl .n)<|r_pv rfl rfl (zga (z:=((Big.digs a).getD 1 0*1000000000)) rfl rfl (wu64 (by omega)))<|r_pv rfl rfl (zb rfl)<|zM rfl rfl (.c rfl (.c rfl .n)) ce85 (zQa (p:=p) (n:=(Big.digs a).length) (cap:=cap) (l:=Big.digs a) (i:=0) (hn:=by first|rfl|assumption|omega|(simp;done)|(simp;omega)|(simp_all;done)) (hi:=by first|rfl|assumption|omega|(simp;done)|(simp;omega)|(simp_all;done))) (.c (j:=0) rfl .n)<|r_pv rfl rfl (zz (z:=(((Big.digs a).getD 1 0*1000000000)+(Big.digs a).getD 0 0)) rfl rfl (wu64 (by omega)))<|r_pv rfl rfl (zd rfl)<|zj<|zf<|zI ?_
 exact zD Try.results83 () trivial (zq rfl) (by rw [hpv]) (ho:=(.n:PickO _ _ _)) (.n:SelR _ _ _)
end Go.Proofs.Ytefbbhiaalcjfaa.Sp
namespace Go.Proofs.Ytefbbhiaalcjfaa.Sp
open Go
set_option linter.unusedVariables false
set_option maxRecDepth 100000
set_option maxHeartbeats 1000000
theorem zEc {a:Nat} {b:Nat} {p1:Option Addr} {c1:Nat} {p2:Option Addr} {c2:Nat} (hb1:(Big.digs a).length≤549755813888) (hb2:(Big.digs b).length≤549755813888) (hb0:0<b):Con Try.prog 82 [.slice p1 ((Big.digs a).length) c1,.slice p2 ((Big.digs b).length) c2] [] [slF (rI .u32) p1 c1 (Big.digs a),slF (rI .u32) p2 c2 (Big.digs b)] (Y:=(Option Addr)×Nat×(Option Addr)×Nat) (fun y=>True) (fun y=> .tuple #[.slice (y.1) ((Big.digs (a / b)).length) (y.2.1),.slice (y.2.2.1) ((Big.digs (a%b)).length) (y.2.2.2)]) (fun y=>[]) (fun y=>[slF (rI .u32) (y.1) (y.2.1) (Big.digs (a / b)),slF (rI .u32) (y.2.2.1) (y.2.2.2) (Big.digs (a%b))]):=by
 refine zr Try.func82 rfl rfl rfl (fun c=> ?_)
 show RunC _ _ _ _ _ [(0,.slice p1 ((Big.digs a).length) c1),(1,.slice p2 ((Big.digs b).length) c2)] [] [slF (rI .u32) p1 c1 (Big.digs a),slF (rI .u32) p2 c2 (Big.digs b)]
 refine zea 0 rfl (fun hL0=> ?_)
 refine zea 1 rfl (fun hL1=> ?_)
 have hln0:=Big.zze hb0
 have hob:=Big.okL_getD (Big.digs_ok b) 0
 have hob1:=Big.okL_getD (Big.digs_ok b) ((Big.digs b).length - 1)
 have hdv:=Big.ln_mono' (Nat.div_le_self a b)
 have hdm:=Nat.mod_lt a hb0
 refine zi<|zc<|r_pv rfl rfl (zd rfl)<|r_pv rfl rfl (zd rfl)<|zj<|zf<|zi<|zc<|r_pv rfl rfl (zb rfl)<|r_pv rfl rfl (zK Try.underlying41 rfl)<|r_pv rfl rfl (zd rfl)<|zj<|zf<|zi<|zi<|zc<|r_pv rfl rfl (zb rfl)<|r_pv rfl rfl (zAa rfl rfl)<|zj<|zf<|zC rfl (fun hl1=> ?_) (fun hl1=> ?_)
 ·
  have hbd:=Big.one_digit (by omega:(Big.digs b).length=1)
  have hbl:b<1000000000:=by omega
  have hokt:Big.okL [((a%b:Nat):Int)]:=Big.okL_cons.2 ⟨by omega,Big.okL_nil⟩
  have hz3:=Big.made_nat hokt (show Big.valL [((a%b:Nat):Int)]=((a%b:Nat):Int) by simp only [Big.valL];omega)
  refine zi<|zc<|r_pv rfl rfl (zb rfl)<|r_pv rfl rfl (zb rfl)<|zO (x0:=((Big.digs b).getD 0 0)) 1 0 rfl Try.underlying41 sz101 rfl rfl rfl (by first|rfl|assumption|(simp;done)|(simp;omega)|omega) rfl rfl (gD (d:=0) (by omega)) (fun b1 o2 hok3=> ?_)
  replace hok3:=zw.1 hok3
  refine r_u rfl rfl (zn (j:=0) 0 ty101 rfl rfl rfl rfl)<|r_pv rfl rfl (zx (z:=((Big.digs b).getD 0 0)) rfl (by rw [Try.underlying101];rfl) Try.underlying100 (wu64 (by omega))) ?_
  have e4:(((Big.digs b).getD 0 0):Int)=((b:Nat):Int):=by exact hbd
  rw [e4]
  refine zA rfl rfl (.c rfl (.c rfl .n)) ce93 (zDc (a:=a) (mm:=b) (p:=p1) (cap:=c1) (hb:=by first|rfl|assumption|omega|(simp;done)) (hm0:=by assumption) (hm1:=by first|rfl|assumption|omega|(simp;done))) (.c (j:=1) rfl .n) ?_
  rintro ⟨p25,c26⟩ -
  dsimp only [List.append_eq,List.nil_append,List.cons_append]
  refine r_pv rfl rfl (zb rfl)<|r_pv rfl rfl (zp rfl rfl)<|r_pv rfl rfl (zp rfl rfl)<|r_pv rfl rfl (zd rfl)<|r_pv rfl rfl (zd rfl)<|zj<|zf<|zi<|zc<|r_pv rfl rfl (zb rfl)<|r_pv rfl rfl (zb rfl)<|r_pv rfl rfl (zx (z:=(((a%b):Nat):Int)) rfl (by rw [Try.underlying100];rfl) Try.underlying101 (wu32 (by omega)))<|zxa rfl rfl (zL (enc:=fun z:Int=>[.int .u32 z]) (ok:=InK .u32) (h1:=fun _=>rfl) (h2:=fun _=>rfl) (k:=1) Try.underlying41 inf101 rfl (by decide) (by decide) (by decide) (.c (x:=(((a%b):Nat):Int)) rfl rfl (fun _ _=>by exact zw.2 (by omega)) .n)) (fun b7 _=> ?_)
  refine zja 0 rfl .z<|zA rfl rfl (.c rfl (.c rfl .n)) ce68 (zEa (s:=false) (p:=some ⟨b7,0,none⟩) (n:=1) (cap:=1) (l:=[(((a%b):Nat):Int)]) (hn:=by first|rfl|omega|(simp;done)|(simp;omega)) (ho:=by exact hokt) (hln:=by first|rfl|omega|(simp;done)|(simp;omega))) (.c (j:=0) rfl .n) ?_
  rintro ⟨p28,c29⟩ -
  dsimp only [List.append_eq,List.nil_append,List.cons_append]
  refine r_pv rfl rfl (zwa Try.underlying43 rfl ty41 rfl rfl)<|r_pv rfl rfl (zd rfl)<|r_pv rfl rfl (zd rfl)<|zj<|zf<|zI<|zt ?_
  exact zta Try.results82 (p25,c26,p28,c29) trivial (zq rfl) (zq rfl) (by rw [hz3]) (ho:=(.n:PickO _ _ _)) ((.c (j:=2) rfl (.e (j:=0) rfl (by rw [hz3]) .n)):SelR _ _ _)
 ·
  refine zy<|zf<|zi<|zi<|zc<|r_pv rfl rfl (zb rfl)<|r_pv rfl rfl (zb rfl)<|zM rfl rfl (.c rfl (.c rfl .n)) ce70 (zlc (a:=a) (b:=b) (p1:=p1) (c1:=c1) (p2:=p2) (c2:=c2)) (.c (j:=0) rfl (.c (j:=1) rfl .n))<|r_pv rfl rfl (zW rfl rfl)<|zj<|zf<|zC rfl (fun hlt=> ?_) (fun hlt=> ?_)
  ·
   have hab9:¬(b:Int)≤a:=fun h=>by have:=Big.cmp_ge.2 h;omega
   have hab:a<b:=by omega
   refine zi<|zc<|zxa rfl rfl (zsa (rI .u32) Try.underlying41 inf101) (fun b10 _=> ?_)
   refine r_pv rfl rfl (zb rfl)<|r_pv rfl rfl (zd rfl)<|r_pv rfl rfl (zd rfl)<|zj<|zf<|zI<|zt ?_
   have hz1:a / b=0:=Nat.div_eq_of_lt hab
   have hz2:a%b=a:=Nat.mod_eq_of_lt hab
   refine zTa 0 rfl .z ?_
   exact zta Try.results82 (some ⟨b10,0,none⟩,0,p1,c1) trivial (zq rfl) (zq rfl) (by rw [hz1,hz2];rfl) (ho:=(.n:PickO _ _ _)) ((.e (j:=0) rfl (by rw [hz1];rfl) (.e (j:=1) rfl (by rw [hz2]) .n)):SelR _ _ _)
  ·
   have hab:b≤a:=by have h9:=Big.cmp_ge.1 (by omega:0≤Big.cmp (a:Int) (b:Int));omega
   have hab2:=Big.ln_mono' hab
   have hq1:0≤1000000000 / ((Big.digs b).getD ((Big.digs b).length - 1) 0+1):=Int.ediv_nonneg (by omega) (by omega)
   have hdt:=Big.digs_top (b:=b) (n:=(Big.digs b).length - 1) (by omega)
   have hq2:1000000000 / ((Big.digs b).getD ((Big.digs b).length - 1) 0+1)≤500000000:=Int.ediv_le_of_le_mul (by omega) (by omega)
   refine zy<|zf<|zi<|zc<|r_pv rfl rfl (zb rfl)<|r_pv rfl rfl (zb rfl)<|r_pv rfl rfl (zda (z:=((((Big.digs b).length - 1):Nat):Int)) rfl rfl (w64 (by omega)))<|zO (x0:=((Big.digs b).getD ((Big.digs b).length - 1) 0)) 1 ((Big.digs b).length - 1) rfl Try.underlying41 sz101 rfl rfl rfl (by first|rfl|assumption|(simp;done)|(simp;omega)|omega) rfl rfl (gD (d:=0) (by omega)) (fun b11 o12 hok13=> ?_)
   replace hok13:=zw.1 hok13
   refine r_u rfl rfl (zn (j:=0) 0 ty101 rfl rfl rfl rfl)<|r_pv rfl rfl (zx (z:=((Big.digs b).getD ((Big.digs b).length - 1) 0)) rfl (by rw [Try.underlying101];rfl) Try.underlying100 (wu64 (by omega)))<|r_pv rfl rfl (zz (z:=(((Big.digs b).getD ((Big.digs b).length - 1) 0)+1)) rfl rfl (wu64 (by omega)))<|r_pv rfl rfl (zHa (z:=(1000000000 / (((Big.digs b).getD ((Big.digs b).length - 1) 0)+1))) rfl rfl (by omega) (by rw [quoN (z:=(1000000000 / (((Big.digs b).getD ((Big.digs b).length - 1) 0)+1))) (by omega) (by omega)];exact wu64 (by omega)))<|r_pv rfl rfl (zd rfl)<|zj<|zf<|zi ?_
   obtain ⟨s,hs⟩:∃s:Nat,s=(1000000000 / ((Big.digs b).getD ((Big.digs b).length - 1) 0+1)).toNat:=⟨_,rfl⟩
   obtain ⟨hs1,hs2,hs3⟩:=Big.scale_len (n:=(Big.digs b).length - 1) (by omega) hs
   have hsd:=Big.digs_one hs1 (by omega:s<1000000000)
   have hsl:(Big.digs s).length=1:=by rw [hsd];rfl
   have e14:((1000000000 / (((Big.digs b).getD ((Big.digs b).length - 1) 0)+1)):Int)=((s:Nat):Int):=by omega
   rw [e14]
   refine zc<|r_pv rfl rfl (zb rfl)<|r_pv rfl rfl (zb rfl)<|zA rfl rfl (.c rfl (.c rfl .n)) ce94 (zAb (a:=a) (d:=s) (p0:=p1) (cap:=c1) (hb:=by first|rfl|assumption|omega|(simp;done)) (hd:=by first|rfl|assumption|omega|(simp;done))) (.c (j:=1) rfl .n) ?_
   rintro ⟨p315,c316⟩ -
   dsimp only [List.append_eq,List.nil_append,List.cons_append]
   refine r_pv rfl rfl (zb rfl)<|r_pv rfl rfl (zb rfl)<|zA rfl rfl (.c rfl (.c rfl .n)) ce94 (zAb (a:=b) (d:=s) (p0:=p2) (cap:=c2) (hb:=by first|rfl|assumption|omega|(simp;done)) (hd:=by first|rfl|assumption|omega|(simp;done))) (.c (j:=3) rfl .n) ?_
   rintro ⟨p317,c318⟩ -
   dsimp only [List.append_eq,List.nil_append,List.cons_append]
   refine r_pv rfl rfl (zd rfl)<|r_pv rfl rfl (zd rfl)<|zj<|zf<|zi ?_
   obtain ⟨A,hA⟩:∃z,z=a*s:=⟨_,rfl⟩
   rw [← hA]
   obtain ⟨V,hV⟩:∃z,z=b*s:=⟨_,rfl⟩
   rw [← hV]
   refine zea 1 rfl (fun hcA=> ?_)
   have hAl:(Big.digs a).length≤(Big.digs A).length:=by rw [hA];exact Big.len_mul_ge hs1
   have hAl2:(Big.digs A).length≤(Big.digs a).length+1:=by have h8:=Big.len_mul_le a s;rw [hsl] at h8;rw [hA];exact h8
   obtain ⟨m,hm⟩:∃z,(Big.digs V).length=z+1:=⟨(Big.digs b).length - 1,by rw [hV,hs3]⟩
   have hmb:(Big.digs b).length=m+1:=by rw [hV,hs3] at hm;omega
   have e19:((((Big.digs b).length:Nat):Int):Int)=(((m+1):Nat):Int):=by omega
   rw [e19]
   refine zc<|r_pv rfl rfl (zb rfl)<|r_pv rfl rfl (zb rfl)<|r_pv rfl rfl (zK Try.underlying41 rfl)<|r_pv rfl rfl (zb rfl)<|r_pv rfl rfl (zda (z:=((((Big.digs A).length - (m+1)):Nat):Int)) rfl rfl (w64 (by omega)))<|r_pv rfl rfl (zz (z:=((((Big.digs A).length - m):Nat):Int)) rfl rfl (w64 (by omega)))<|r_pv rfl rfl (zGd (lo:=((Big.digs A).length - m)) (hi:=(Big.digs A).length) Try.underlying41 sz101 rfl (.s rfl) .n (.inr ⟨_,rfl⟩) (.inl ⟨rfl,rfl⟩) (by omega) (by omega))<|zwc (zaf 1 rfl ((Big.digs A).length - m) ((Big.digs A).length) (by omega) (by omega)) (fun _ _=> ?_)
   refine zA rfl rfl (.c rfl (.c rfl .n)) ce68 (zEa (s:=false) (p:=(newP p315 c316 ((Big.digs A).length - m) 1)) (n:=((Big.digs A).length) - ((Big.digs A).length - m)) (cap:=(c316 - ((Big.digs A).length - m))) (l:=(((Big.digs A).take ((Big.digs A).length)).drop ((Big.digs A).length - m))) (hn:=by first|rfl|omega|(simp;done)|(simp;omega)) (ho:=by exact Big.okL_drop (Big.okL_take (Big.digs_ok _) _) _) (hln:=by first|rfl|omega|(simp;done)|(simp;omega))) (.c (j:=0) rfl .n) ?_
   rintro ⟨p220,c221⟩ -
   dsimp only [List.append_eq,List.nil_append,List.cons_append]
   refine r_pv rfl rfl (zwa Try.underlying43 rfl ty41 rfl rfl)<|r_pv rfl rfl (zd rfl)<|zj<|zf<|zi ?_
   obtain ⟨R0,hR0⟩:∃z,z=(Big.sg false (Big.valL (((Big.digs A).take ((Big.digs A).length)).drop ((Big.digs A).length - m)))).natAbs:=⟨_,rfl⟩
   rw [← hR0]
   have hpt:Big.PtI A V ((Big.digs A).length - m) [] R0:=Big.PtI.start hm (by omega) (by rw [hR0,List.take_length];have:=Big.valL_nonneg (Big.okL_drop (Big.digs_ok A) ((Big.digs A).length - m));simp only [Big.sg];omega)
   refine zc<|r_pv rfl rfl (zb rfl)<|r_pv rfl rfl (zK Try.underlying41 rfl)<|r_pv rfl rfl (zb rfl)<|r_pv rfl rfl (zda (z:=((((Big.digs A).length - (m+1)):Nat):Int)) rfl rfl (w64 (by omega)))<|r_pv rfl rfl (zz (z:=((((Big.digs A).length - m):Nat):Int)) rfl rfl (w64 (by omega)))<|zxa rfl rfl (zWa (r:=rI .u32) (k:=((Big.digs A).length - m)) (x0:=0) (γ0:=()) Try.underlying41 inf101 rfl rfl rfl rfl (by omega) (by omega) rfl (fun _ _=>by exact zw.2 (by decide)) (by decide)) (fun b22 _=> ?_)
   refine r_pv rfl rfl (zd rfl)<|zj<|zf<|zi<|zi<|zc<|r_pv rfl rfl (zb rfl)<|r_pv rfl rfl (zK Try.underlying41 rfl)<|r_pv rfl rfl (zb rfl)<|r_pv rfl rfl (zda (z:=((((Big.digs A).length:Nat):Int) - (((m+1):Nat):Int))) rfl rfl (w64 (by omega)))<|r_pv rfl rfl (zd rfl)<|zj<|zf<|zB<|zna (X:=Nat×(List Int)×Nat×(Option Addr)×Nat) (fun x:Nat×(List Int)×Nat×(Option Addr)×Nat=>Big.PtI A V x.1 x.2.1 x.2.2.1∧x.1+x.2.1.length=(Big.digs A).length - m) (fun x=>[(10,.slice (x.2.2.2.1) ((Big.digs (x.2.2.1)).length) (x.2.2.2.2)),(12,.int .i64 (((x.1:Nat):Int) - 1)),(11,.slice (some ⟨b22,0,none⟩) ((Big.digs A).length - m) ((Big.digs A).length - m)),(1,.slice p317 ((Big.digs V).length) c318),(0,.slice p315 ((Big.digs A).length) c316),(9,.int .u64 ((s:Nat):Int)),(6,.int .i64 (((m+1):Nat):Int)),(5,.slice none 0 0),(4,.slice none 0 0)]) (fun x=>[rowA 101 (rI .u32) (some ⟨b22,0,none⟩) ((Big.digs A).length - m) (List.replicate x.1 0++x.2.1)]) (fun x=>[slF (rI .u32) (x.2.2.2.1) (x.2.2.2.2) (Big.digs (x.2.2.1)),slF (rI .u32) p220 c221 (Big.digs R0),slF (rI .u32) (newP p315 c316 ((Big.digs A).length - m) 1) (c316 - ((Big.digs A).length - m)) (((Big.digs A).take ((Big.digs A).length)).drop ((Big.digs A).length - m)),slF (rI .u32) p317 c318 (Big.digs V),slF (rI .u32) p315 c316 (Big.digs A),atF b11 o12 [.int .u32 ((Big.digs b).getD ((Big.digs b).length - 1) 0)],slF (rI .u32) p1 c1 (Big.digs a),slF (rI .u32) p2 c2 (Big.digs b)]) (fun x:Nat×(List Int)×Nat×(Option Addr)×Nat=>x.1) (((Big.digs A).length - m),([]:List Int),R0,p220,c221) (show Big.PtI A V ((Big.digs A).length - m) ([]:List Int) R0∧((Big.digs A).length - m)+([]:List Int).length=(Big.digs A).length - m from by exact ⟨hpt,rfl⟩) ((.e rfl (by first|rfl|(congr 1;omega)|simp_all) (.e rfl (congrArg (Value.int .i64) (by omega)) (.of rfl))):SubM _ _) (ho:=((.e (i:=0) rfl (by simp) .n):PickO _ _ _)) ((.e (j:=0) rfl (by first|rfl|simp_all) (.of [0,1,2,3,4,5,6] rfl)):SelR _ _ _) ?_
   rintro ⟨jj,qs,R,pr,cr⟩ hI
   replace hI:Big.PtI A V jj qs R∧jj+qs.length=(Big.digs A).length - m:=hI
   try dsimp only
   obtain ⟨hP,hql⟩:=hI
   refine zi<|zi<|zc<|r_pv rfl rfl (zb rfl)<|r_pv rfl rfl (zGa rfl rfl)<|zj<|zf<|zC rfl (fun hj=> ?_) (fun hj=> ?_)
   ·
    obtain ⟨j,rfl⟩:∃j,jj=j+1:=⟨jj - 1,by omega⟩
    have e23:(((((j+1):Nat):Int) - 1):Int)=((j:Nat):Int):=by omega
    rw [e23]
    have hjle:=hP.le
    have hRV:=hP.lt
    have hdn:=Big.okL_getD (Big.digs_ok A) j
    obtain ⟨d,hd⟩:∃d:Nat,(Big.digs A).getD j 0=(d:Int):=⟨_,(Int.toNat_of_nonneg hdn.1).symm⟩
    have hd9:d<1000000000:=by omega
    have hWlt9:=Big.pt_lim hRV hd9
    have hRl:=Big.ln_mono' (Nat.le_of_lt hRV)
    refine zy<|zf<|zi<|zB<|zi<|zc<|r_pv rfl rfl (zb rfl)<|r_pv rfl rfl (zb rfl)<|r_pv rfl rfl (zb rfl)<|zO (x0:=((Big.digs A).getD j 0)) 4 j rfl Try.underlying41 sz101 rfl rfl rfl (by first|rfl|assumption|(simp;done)|(simp;omega)|omega) rfl rfl (gD (d:=0) (by omega)) (fun b24 o25 hok26=> ?_)
    replace hok26:=zw.1 hok26
    refine r_u rfl rfl (zn (j:=0) 0 ty101 rfl rfl rfl rfl) ?_
    have e27:(((Big.digs A).getD j 0):Int)=((d:Nat):Int):=by exact hd
    rw [e27]
    refine zA rfl rfl (.c rfl (.c rfl .n)) ce95 (zdd (a:=R) (d:=d) (p0:=pr) (cap:=cr) (hb:=by first|rfl|assumption|omega|(simp;done)) (hd:=by first|rfl|assumption|omega|(simp;done))) (.c (j:=1) rfl .n) ?_
    rintro ⟨p328,c329⟩ -
    dsimp only [List.append_eq,List.nil_append,List.cons_append]
    refine r_pv rfl rfl (zd rfl)<|zj<|zf<|zi ?_
    obtain ⟨W,hW⟩:∃z,z=(R*1000000000+d):=⟨_,rfl⟩
    rw [← hW]
    have hWlt:W<V*1000000000:=by rw [hW];exact hWlt9
    have hWl:=Big.pt_wlen hWlt hm
    have hw1:=Big.okL_getD (Big.digs_ok W) (m+1)
    have hw0:=Big.okL_getD (Big.digs_ok W) m
    have hv0:=Big.okL_getD (Big.digs_ok V) m
    have hg0:0≤(((Big.digs W).getD (m+1) 0*1000000000+(Big.digs W).getD m 0) / ((Big.digs V).getD m 0+1)):=Int.ediv_nonneg (by omega) (by omega)
    have hg1:(((Big.digs W).getD (m+1) 0*1000000000+(Big.digs W).getD m 0) / ((Big.digs V).getD m 0+1))≤1000000000000000000:=Int.le_trans (Int.ediv_le_self _ (by omega)) (by omega)
    refine zia (OW:=[]) (O:=[rowA 101 (rI .u32) (some ⟨b22,0,none⟩) ((Big.digs A).length - m) (List.replicate (j+1) 0++qs)]) 100000 mixed (.then (.block (.then (.then (.block (.then .ret)))))) (by kernel_rfl)<|d_pv 0 rfl rfl (by kernel_rfl) (by kernel_rfl) rfl rfl (zb rfl)<|d_pv 1 rfl rfl (by kernel_rfl) (by kernel_rfl) rfl rfl (zb rfl)<|d_pv 4 rfl rfl (by kernel_rfl) (by kernel_rfl) rfl rfl (zb rfl)<|d_pv 5 rfl rfl (by kernel_rfl) (by kernel_rfl) rfl rfl (zb rfl)<|d_pv 6 rfl rfl (by kernel_rfl) (by kernel_rfl) rfl rfl (zda (z:=((m:Nat):Int)) rfl rfl (w64 (by omega)))<|d_pv 9 rfl rfl (by kernel_rfl) (by kernel_rfl) rfl rfl (zb rfl)<|d_pv 10 rfl rfl (by kernel_rfl) (by kernel_rfl) rfl rfl (zb rfl)<|d_pv 11 rfl rfl (by kernel_rfl) (by kernel_rfl) rfl rfl (zda (z:=((m:Nat):Int)) rfl rfl (w64 (by omega)))<|zqa (x0:=((Big.digs V).getD m 0)) 12 rfl rfl (by kernel_rfl) (by kernel_rfl) 5 m rfl Try.underlying41 sz101 rfl rfl rfl (by first|rfl|assumption|(simp;done)|(simp;omega)|omega) rfl rfl (gD (d:=0) (by omega)) (fun b30 o31 hok32=> ?_)
    replace hok32:=zw.1 hok32
    refine d_u 13 rfl rfl (by kernel_rfl) (by kernel_rfl) rfl rfl (zn (j:=0) 0 ty101 rfl rfl rfl rfl)<|d_pv 14 rfl rfl (by kernel_rfl) (by kernel_rfl) rfl rfl (zx (z:=((Big.digs V).getD m 0)) rfl (by rw [Try.underlying101];rfl) Try.underlying100 (wu64 (by omega)))<|d_pv 15 rfl rfl (by kernel_rfl) (by kernel_rfl) rfl rfl (zz (z:=(((Big.digs V).getD m 0)+1)) rfl rfl (wu64 (by omega)))<|zT 2 (by kernel_rfl) (zVa rfl rfl rfl rfl (.c rfl (.c rfl .n)) ce85 (zQa (p:=p328) (n:=(Big.digs W).length) (cap:=c329) (l:=Big.digs W) (i:=(m+1)) (hn:=by first|rfl|assumption|omega|(simp;done)) (hi:=by first|rfl|assumption|omega|(simp;done))) (.c (j:=1) rfl .n) ?_)
    refine d_pv 3 rfl rfl (by kernel_rfl) (by kernel_rfl) rfl rfl (zga (z:=((Big.digs W).getD (m+1) 0*1000000000)) rfl rfl (wu64 (by omega)))<|zT 7 (by kernel_rfl) (zVa rfl rfl rfl rfl (.c rfl (.c rfl .n)) ce85 (zQa (p:=p328) (n:=(Big.digs W).length) (cap:=c329) (l:=Big.digs W) (i:=m) (hn:=by first|rfl|assumption|omega|(simp;done)) (hi:=by first|rfl|assumption|omega|(simp;done))) (.c (j:=1) rfl .n) ?_)
    refine d_pv 8 rfl rfl (by kernel_rfl) (by kernel_rfl) rfl rfl (zz (z:=(((Big.digs W).getD (m+1) 0*1000000000)+(Big.digs W).getD m 0)) rfl rfl (wu64 (by omega)))<|d_pv 16 rfl rfl (by kernel_rfl) (by kernel_rfl) rfl rfl (zHa (z:=((((Big.digs W).getD (m+1) 0*1000000000)+(Big.digs W).getD m 0) / (((Big.digs V).getD m 0)+1))) rfl rfl (by omega) (by rw [quoN (z:=((((Big.digs W).getD (m+1) 0*1000000000)+(Big.digs W).getD m 0) / (((Big.digs V).getD m 0)+1))) (by omega) (by omega)];exact wu64 (by omega)))<|d_pv 17 rfl rfl (by kernel_rfl) (by kernel_rfl) rfl rfl (zd rfl)<|zfa (by kernel_rfl)<|zf<|zi ?_
    obtain ⟨g0,hg9⟩:∃g:Nat,(g:Int)=(((Big.digs W).getD (m+1) 0*1000000000+(Big.digs W).getD m 0) / ((Big.digs V).getD m 0+1)):=⟨_,Int.toNat_of_nonneg hg0⟩
    obtain ⟨hgm,hgl⟩:=Big.pt_guess hWlt hm hg9
    have hVg:=Big.ln_mono' hgm
    have e33:(((((Big.digs W).getD (m+1) 0*1000000000)+(Big.digs W).getD m 0) / (((Big.digs V).getD m 0)+1)):Int)=((g0:Nat):Int):=by exact hg9.symm
    rw [e33]
    refine zc<|r_pv rfl rfl (zb rfl)<|r_pv rfl rfl (zb rfl)<|r_pv rfl rfl (zb rfl)<|zA rfl rfl (.c rfl (.c rfl .n)) ce94 (zAb (a:=V) (d:=g0) (p0:=p317) (cap:=c318) (hb:=by first|rfl|assumption|omega|(simp;done)) (hd:=by first|rfl|assumption|omega|(simp;done))) (.c (j:=6) rfl .n) ?_
    rintro ⟨p334,c335⟩ -
    dsimp only [List.append_eq,List.nil_append,List.cons_append]
    refine zA rfl rfl (.c rfl (.c rfl .n)) ce71 (zyb (a:=W) (b:=V*g0) (p1:=p328) (c1:=c329) (p2:=p334) (c2:=c335) (hb1:=by first|rfl|assumption|omega|(simp;done)) (hb2:=by first|rfl|assumption|omega|(simp;done)) (hab:=by first|rfl|assumption|omega|(simp;done))) (.c (j:=2) rfl (.c (j:=0) rfl .n)) ?_
    rintro ⟨p336,c337⟩ -
    dsimp only [List.append_eq,List.nil_append,List.cons_append]
    refine r_pv rfl rfl (zd rfl)<|zj<|zf<|zi<|zB<|zna (X:=Nat×Nat×(Option Addr)×Nat) (fun x:Nat×Nat×(Option Addr)×Nat=>x.2.1+V*x.1=W) (fun x=>[(10,.slice (x.2.2.1) ((Big.digs (x.2.1)).length) (x.2.2.2)),(13,.int .u64 ((x.1:Nat):Int)),(12,.int .i64 ((j:Nat):Int)),(11,.slice (some ⟨b22,0,none⟩) ((Big.digs A).length - m) ((Big.digs A).length - m)),(1,.slice p317 ((Big.digs V).length) c318),(0,.slice p315 ((Big.digs A).length) c316),(9,.int .u64 ((s:Nat):Int)),(6,.int .i64 (((m+1):Nat):Int)),(5,.slice none 0 0),(4,.slice none 0 0)]) (fun x=>[rowA 101 (rI .u32) (some ⟨b22,0,none⟩) ((Big.digs A).length - m) (List.replicate (j+1) 0++qs)]) (fun x=>[slF (rI .u32) (x.2.2.1) (x.2.2.2) (Big.digs (x.2.1)),slF (rI .u32) p336 c337 (Big.digs (W - (V*g0))),slF (rI .u32) p334 c335 (Big.digs (V*g0)),atF b30 o31 [.int .u32 ((Big.digs V).getD m 0)],slF (rI .u32) p328 c329 (Big.digs W),atF b24 o25 [.int .u32 ((d:Nat):Int)],slF (rI .u32) pr cr (Big.digs R),slF (rI .u32) p220 c221 (Big.digs R0),slF (rI .u32) (newP p315 c316 ((Big.digs A).length - m) 1) (c316 - ((Big.digs A).length - m)) (((Big.digs A).take ((Big.digs A).length)).drop ((Big.digs A).length - m)),slF (rI .u32) p317 c318 (Big.digs V),slF (rI .u32) p315 c316 (Big.digs A),atF b11 o12 [.int .u32 ((Big.digs b).getD ((Big.digs b).length - 1) 0)],slF (rI .u32) p1 c1 (Big.digs a),slF (rI .u32) p2 c2 (Big.digs b)]) (fun x:Nat×Nat×(Option Addr)×Nat=>x.2.1) (g0,(W - V*g0),p336,c337) (show (W - V*g0)+V*g0=W from by exact Nat.sub_add_cancel hgm) ((.e rfl (by first|rfl|(congr 1;omega)|simp_all) (.of rfl)):SubM _ _) (ho:=((.c (i:=0) rfl .n):PickO _ _ _)) ((.e (j:=0) rfl (by first|rfl|simp_all) (.of [0,1,2,3,4,5,6,7,8,9,10,11,12] rfl)):SelR _ _ _) ?_
    rintro ⟨g,r,p9,c9⟩ hJ
    replace hJ:r+V*g=W:=hJ
    try dsimp only
    have hgb:g<1000000000:=Nat.lt_of_mul_lt_mul_left (a:=V) (by omega)
    have hrl:=Big.ln_mono' (show r≤W by omega)
    refine zi<|zi<|zc<|r_pv rfl rfl (zb rfl)<|r_pv rfl rfl (zb rfl)<|zM rfl rfl (.c rfl (.c rfl .n)) ce70 (zlc (a:=r) (b:=V) (p1:=p9) (c1:=c9) (p2:=p317) (c2:=c318)) (.c (j:=0) rfl (.c (j:=9) rfl .n))<|r_pv rfl rfl (zGa rfl rfl)<|zj<|zf<|zC rfl (fun hge=> ?_) (fun hge=> ?_)
    ·
     have hrV:V≤r:=by have h9:=Big.cmp_ge.1 hge;omega
     refine zy<|zf<|zB<|zi<|zc<|r_pv rfl rfl (zb rfl)<|r_pv rfl rfl (zb rfl)<|zA rfl rfl (.c rfl (.c rfl .n)) ce71 (zyb (a:=r) (b:=V) (p1:=p9) (c1:=c9) (p2:=p317) (c2:=c318) (hb1:=by first|rfl|assumption|omega|(simp;done)) (hb2:=by first|rfl|assumption|omega|(simp;done)) (hab:=by first|rfl|assumption|omega|(simp;done))) (.c (j:=0) rfl (.c (j:=9) rfl .n)) ?_
     rintro ⟨p338,c339⟩ -
     dsimp only [List.append_eq,List.nil_append,List.cons_append]
     refine r_pv rfl rfl (zd rfl)<|zj<|zf<|zc<|r_pv rfl rfl (zb rfl)<|r_pv rfl rfl (zz (z:=(((g+1):Nat):Int)) rfl rfl (wu64 (by omega)))<|r_pv rfl rfl (zd rfl)<|zj<|zS<|zZ ((g+1),(r - V),p338,c339) (show (r - V)+V*(g+1)=W from by rw [Nat.mul_succ];omega) (by show r - V<r;omega) ((.e rfl (by first|rfl|(congr 1;omega)|simp_all) (.of rfl)):SubM _ _) (ho:=((.c (i:=0) rfl .n):PickO _ _ _)) ((.e (j:=0) rfl (by first|rfl|simp_all) (.of [2,3,4,5,6,7,8,9,10,11,12,13,14] rfl)):SelR _ _ _)
    ·
     have hrV:r<V:=by have h9:¬(V:Int)≤r:=fun h=>hge (Big.cmp_ge.2 h);omega
     have hst:=hP.step hd (by rw [← hW];exact hJ) hrV
     refine zha<|zm<|zm<|zv<|zf<|zc<|r_pv rfl rfl (zb rfl)<|r_pv rfl rfl (zb rfl)<|r_pv rfl rfl (zb rfl)<|r_pv rfl rfl (zx (z:=((g:Nat):Int)) rfl (by rw [Try.underlying100];rfl) Try.underlying101 (wu32 (by omega)))<|r_pv rfl rfl (zP (j:=j) Try.underlying41 sz101 rfl rfl rfl (by omega))<|zya 0 rfl rfl rfl (zN (j:=j) (x0:=((g:Nat):Int)) (γ0:=()) rfl rfl (by first|omega|(rw [List.length_map];omega)|(simp only [List.length_set];omega)|(simp;omega)) rfl rfl sz101 (fun _ _=>by exact zw.2 (by omega))) (fun _=> .z) (fun _ _=> ?_)
     refine zj<|zS<|zf<|zc<|r_pv rfl rfl (zb rfl)<|r_pv rfl rfl (zda (z:=(((j:Nat):Int) - 1)) rfl rfl (w64 (by omega)))<|r_pv rfl rfl (zd rfl)<|zj<|zZ (j,(((g:Nat):Int) :: qs),r,p9,c9) (show Big.PtI A V j (((g:Nat):Int) :: qs) r∧j+(((g:Nat):Int) :: qs).length=(Big.digs A).length - m from by exact ⟨hst,by rw [List.length_cons];omega⟩) (by show j<j+1;omega) ((.of rfl):SubM _ _) (ho:=((.e (i:=0) rfl (by rw [Big.pad_set]) .n):PickO _ _ _)) ((.of [0,7,8,9,10,11,12,13] rfl):SelR _ _ _)
   ·
    have hj0:jj=0:=by omega
    have hI0:Big.PtI A V 0 qs R:=hj0 ▸ hP
    obtain ⟨hf1,hf2⟩:=hI0.fin
    have hsc:=Big.scale_div (a:=a) (b:=b) hs1
    have hRV:=hI0.lt
    have hRl:=Big.ln_mono' (Nat.le_of_lt hRV)
    have hz4:=Big.made_nat hI0.ok hf1
    have hok5:=hI0.ok
    refine zha<|zm<|zm<|zv<|zf<|zi<|zc<|r_pv rfl rfl (zb rfl)<|r_pv rfl rfl (zb rfl)<|zA rfl rfl (.c rfl (.c rfl .n)) ce93 (zDc (a:=R) (mm:=s) (p:=pr) (cap:=cr) (hb:=by first|rfl|assumption|omega|(simp;done)) (hm0:=by first|rfl|assumption|omega|(simp;done)) (hm1:=by first|rfl|assumption|omega|(simp;done))) (.c (j:=0) rfl .n) ?_
    rintro ⟨p240,c241⟩ -
    dsimp only [List.append_eq,List.nil_append,List.cons_append]
    refine r_pv rfl rfl (zb rfl)<|r_pv rfl rfl (zp rfl rfl)<|r_pv rfl rfl (zp rfl rfl)<|r_pv rfl rfl (zd rfl)<|r_pv rfl rfl (zd rfl)<|zj<|zf<|zi ?_
    have e42:List.replicate jj 0++qs=qs:=by rw [hj0];rfl
    rw [e42]
    refine zc<|r_pv rfl rfl (zb rfl)<|zja 0 rfl .z<|zA rfl rfl (.c rfl (.c rfl .n)) ce68 (zEa (s:=false) (p:=some ⟨b22,0,none⟩) (n:=((Big.digs A).length - m)) (cap:=((Big.digs A).length - m)) (l:=qs) (hn:=by first|rfl|omega|(simp;done)|(simp;omega)) (ho:=by exact hok5) (hln:=by first|rfl|omega|(simp;done)|(simp;omega))) (.c (j:=0) rfl .n) ?_
    rintro ⟨p243,c244⟩ -
    dsimp only [List.append_eq,List.nil_append,List.cons_append]
    refine r_pv rfl rfl (zwa Try.underlying43 rfl ty41 rfl rfl)<|r_pv rfl rfl (zb rfl)<|r_pv rfl rfl (zd rfl)<|r_pv rfl rfl (zd rfl)<|zj<|zf<|zI ?_
    have hr9:R / s=a%b:=by rw [hf2,hA,hV,hsc.2]
    have hz5:(Big.sg false (Big.valL qs)).natAbs=a / b:=by rw [hz4,hA,hV,hsc.1]
    exact zta Try.results82 (p243,c244,p240,c241) trivial (zq rfl) (zq rfl) (by rw [hz5,hr9]) (ho:=(.n:PickO _ _ _)) ((.e (j:=0) rfl (by rw [hz5]) (.e (j:=2) rfl (by rw [hr9]) .n)):SelR _ _ _)
end Go.Proofs.Ytefbbhiaalcjfaa.Sp
