/- Lemmas on the walk and plain lemmas that the claim of this folder uses; each states its own conditions. Lines were printed by a program of ours. -/
import Derived.Test.YtefbbhiaalcjfaaZ5A
set_option linter.unusedVariables false
set_option linter.unusedSimpArgs false
set_option linter.unusedSectionVars false
namespace Go.Proofs.Ytefbbhiaalcjfaa.Sp
open Go
set_option linter.unusedVariables false
structure Wd where
  s:Bool
  p:Option Addr
  n:Nat
  c:Nat
@[reducible] def Wd.b (w : Wd) : Value := .bool w.s
@[reducible] def Wd.l (w : Wd) : Value := .slice w.p w.n w.c
@[reducible] def cw : List Wd → List Value
  |[]=>[]
  |w :: l=>w.b :: w.l :: cw l
def wz:Wd:=⟨false,none,0,0⟩
def Wd.is (g:Hp) (w:Wd) (z:Int):Prop:=w.s=decide (z<0)∧w.n=(Big.digs z.natAbs).length∧Sl (rI .u32) g w.p w.c (Big.digs z.natAbs)
def zF (w:Wd) (z:Int):Fa:=⟨fun g=>w.is g z,fun _ _ h k=>⟨k.1,k.2.1,k.2.2.mono h⟩⟩
def lb (n k:Nat):Array Bool:=⟨(List.range n).map (Nat.testBit k)⟩
section
variable {P : Program} {c : Cx} {n : Sz} {Q : Exit → Act → World → Prop} {m : Fm} {O : List As} {R : List Fa} {f : Nat}
theorem Mem.fact {w:World} {r:Fa} (h:∀g,Holds g R→r.on g) (mm:Mem c w O R):Mem c w O (r :: R):=
  mm.weaken fun hh g s r' a=>⟨hh,g,s,⟨h g r',r'⟩,Hp.le_refl _,Hp.le_refl _,a,fun _ _ e=> .inl e⟩
theorem zpb {e:Exit} (r:Fa) (h:∀g,Holds g R→r.on g) (k:Post c n Q e m O (r :: R)):Post c n Q e m O R:=fun a w f mm=>k a w f (mm.fact h)
theorem Mem.mapR {w:World} {R':List Fa} (h:∀g,Holds g R→Holds g R') (mm:Mem c w O R):Mem c w O R':=
  mm.weaken fun hh g s r' a=>⟨hh,g,s,h g r',Hp.le_refl _,Hp.le_refl _,a,fun _ _ e=> .inl e⟩
theorem Con.told {A:List Value} {Y Z:Type} {φ:Y→Prop} {val:Y→Value} {O':Y→List As} {R':Y→List Fa} {ψ:Z→Prop} {val2:Z→Value} {O2:Z→List As} {R2:Z→List Fa} (h:Con P f A O R φ val O' R') (t:Y→Z)
    (hv:∀y,val y=val2 (t y)) (hp:∀y,φ y→ψ (t y)) (ho:∀y,O' y=O2 (t y)) (hR:∀y,φ y→∀g,Holds g (R' y)→Holds g (R2 (t y))):Con P f A O R ψ val2 O2 R2:=fun w hh g s r ap h1 h2=>
  (h w hh g s r ap h1 h2).mono fun e w' ⟨y,e1,e2,e3⟩=>⟨t y,by rw [e1,hv],hp y e2,by rw [← ho];exact Mem.mapR (hR y e2) e3⟩
theorem Con.of {A:List Value} {Y:Type} {φ:Y→Prop} {val:Y→Value} {O':Y→List As} {R':Y→List Fa} {X:Type} {ψ:X→Prop} {A2:X→List Value} {R2:X→List Fa}
    (h:∀x,ψ x→Con P f (A2 x) O (R2 x) φ val O' R') (hx:∀g,Holds g R→∃x,ψ x∧A2 x=A∧Holds g (R2 x)):Con P f A O R φ val O' R':=fun w hh g s r ap h1 h2=>by
  obtain ⟨x,hp,e,r2⟩:=hx g r
  have:=h x hp w hh g s r2 ap h1 h2
  rw [e] at this;exact this
abbrev bigL (z:Int) (p:Option Addr) (c:Nat):List Value:=[.bool (decide (z<0)),.slice p (Big.digs z.natAbs).length c]
abbrev bigS (z:Int) (p:Option Addr) (c:Nat):Fa:=slF (rI .u32) p c (Big.digs z.natAbs)
theorem Wd.eq {g:Hp} {w:Wd} {z:Int} (h:w.is g z):[w.b,w.l]=bigL z w.p w.c:=by rw [Wd.b,Wd.l,h.1,h.2.1]
theorem zSc {z:Int} {w:Wd} {Y:Type} {φ:Y→Prop} {val:Y→Value} {O':Y→List As} {R':Y→List Fa} (h:∀p c,Con P f [.agg (bigL z p c).toArray] O [bigS z p c] φ val O' R'):Con P f [.agg #[w.b,w.l]] O [zF w z] φ val O' R':=
  Con.of (X:=Unit) (ψ:=fun _=>True) (A2:=fun _=>[.agg (bigL z w.p w.c).toArray]) (R2:=fun _=>[bigS z w.p w.c]) (fun _ _=>h w.p w.c) fun g r=>⟨(),trivial,by rw [← Wd.eq r.1],r.1.2.2,trivial⟩
theorem zsc {z1 z2:Int} {w1 w2:Wd} {Y:Type} {φ:Y→Prop} {val:Y→Value} {O':Y→List As} {R':Y→List Fa} (h:∀p1 c1 p2 c2,Con P f [.agg (bigL z1 p1 c1).toArray,.agg (bigL z2 p2 c2).toArray] O [bigS z1 p1 c1,bigS z2 p2 c2] φ val O' R'):Con P f [.agg #[w1.b,w1.l],.agg #[w2.b,w2.l]] O [zF w1 z1,zF w2 z2] φ val O' R':=
  Con.of (X:=Unit) (ψ:=fun _=>True) (A2:=fun _=>[.agg (bigL z1 w1.p w1.c).toArray,.agg (bigL z2 w2.p w2.c).toArray]) (R2:=fun _=>[bigS z1 w1.p w1.c,bigS z2 w2.p w2.c]) (fun _ _=>h w1.p w1.c w2.p w2.c) fun g r=>⟨(),trivial,by rw [← Wd.eq r.1,←Wd.eq r.2.1],r.1.2.2,r.2.1.2.2,trivial⟩
theorem zPb {z:Int} {A:List Value} (h:Con P f A O R (Y:=Option Addr×Nat) (fun _=>True) (fun y=> .agg (bigL z y.1 y.2).toArray) (fun _=>[]) (fun y=>[bigS z y.1 y.2])):Con P f A O R (Y:=Wd) (fun _=>True) (fun w=> .agg #[w.b,w.l]) (fun _=>[]) (fun w=>[zF w z]):=
  h.told (fun y=>⟨decide (z<0),y.1,(Big.digs z.natAbs).length,y.2⟩) (fun _=>rfl) (fun _ _=>trivial) (fun _=>rfl) (fun y _ g r=>⟨⟨rfl,rfl,r.1⟩,trivial⟩)
end
section
variable {P : Program} {c : Cx} {n : Sz} {Q : Exit → Act → World → Prop} {m : Fm} {O OW : List As} {R R' : List Fa} {ops : Array Oper} {ro : Option Nat} {l : List Oper} {wi k : Nat} {L : Array Bool} {α : Type} {d : Option Tmp} {ty : TypeId} {ps : String} {af : Array Edge} {gd : Option (Nat × Bool)}
def PartsG (m:Fm) (R:List Fa) (r:Rp α):Nat→List (Nat×Operand)→List (Nat×Value)→List α→List (List Value)→Prop
  |_,[],[],[],[]=>True
  |i,(i1,x0) :: xs,(i2,v) :: vs,x :: es,cs :: css=>i1=i∧i2=i∧evo m x0=some v∧v.cells=cs.toArray∧(∀g,Holds g R→∃γ,r.enc x γ=cs∧r.ok g x γ)∧cs.length=r.sz∧PartsG m R r (i+1) xs vs es css
  |_,_,_,_,_=>False
theorem PartsG.evp {r:Rp α}:∀{i:Nat} {xs:List (Nat×Operand)} {vs:List (Nat×Value)} {es:List α} {css:List (List Value)},PartsG m R r i xs vs es css→evp m xs vs
  |_,[],[],[],[],_=>trivial
  |_,(_,_) :: _,(_,_) :: _,_ :: _,_ :: _,⟨h1,h2,h,_,_,_,k⟩=>⟨h1.trans h2.symm,h,PartsG.evp k⟩
theorem PartsG.len {r:Rp α}:∀{i:Nat} {xs:List (Nat×Operand)} {vs:List (Nat×Value)} {es:List α} {css:List (List Value)},PartsG m R r i xs vs es css→css.flatten.length=es.length*r.sz
  |_,[],[],[],[],_=>by simp
  |_,(_,_) :: _,(_,_) :: _,_ :: es,_ :: css,⟨_,_,_,_,_,hl,k⟩=>by
    have:=PartsG.len k
    simp only [List.flatten_cons,List.length_append,hl,this,List.length_cons,Nat.succ_mul];omega
theorem PartsG.fill {r:Rp α}:∀{i:Nat} {xs:List (Nat×Operand)} {vs:List (Nat×Value)} {es:List α} {css:List (List Value)},PartsG m R r i xs vs es css→∀(pre rest:List Value),pre.length=i*r.sz→rest.length=es.length*r.sz→
    Fill (fun i=>some (i*r.sz,r.sz)) (pre++rest) vs (pre++css.flatten)
  |_,[],[],[],[],_,pre,rest,hp,hr=>by
    have:rest=[]:=List.eq_nil_of_length_eq_zero (by simpa using hr)
    subst this;rfl
  |i,(_,_) :: _,(_,_) :: _,x :: es,cs :: css,⟨h1,h2,h,hv,_,hl,k⟩,pre,rest,hp,hr=>by
    subst h2
    refine ⟨_*r.sz,r.sz,cs,pre++(cs++rest.drop r.sz),rfl,hv,hl,⟨?_,?_⟩,?_⟩
    · simp only [List.length_append,hp,hl,hr,List.length_cons,Nat.succ_mul];omega
    · rw [hl, ← hp, List.take_left, List.drop_append]
      have:pre.drop (pre.length+r.sz)=[]:=List.drop_eq_nil_of_le (by omega)
      rw [this,List.nil_append,show pre.length+r.sz - pre.length=r.sz by omega,List.append_assoc]
    · have := PartsG.fill k (pre ++ cs) (rest.drop r.sz) (by rw [List.length_append, hp, hl, Nat.succ_mul]) (by rw [List.length_drop, hr, List.length_cons, Nat.succ_mul]; omega)
      simpa [List.append_assoc] using this
theorem PartsG.els {r:Rp α} {g:Hp} (hr:Holds g R):∀{i:Nat} {xs:List (Nat×Operand)} {vs:List (Nat×Value)} {es:List α} {css:List (List Value)},PartsG m R r i xs vs es css→Els r g css.flatten 0 es
  |_,[],[],[],[],_=>fun i x e=>by simp at e
  |_,(_,_) :: _,(_,_) :: _,x :: es,cs :: css,⟨_,_,h,hv,hok,hl,k⟩=>fun i y e=>by
    cases i with
    |zero=>
      simp at e;subst e
      obtain ⟨γ,h1,h2⟩:=hok g hr
      refine ⟨γ,⟨r.len _ _,fun j v ev=> ?_⟩,h2⟩
      rw [h1] at ev
      have hj:=(List.getElem?_eq_some_iff.1 ev).1
      simp only [List.flatten_cons,Nat.zero_mul,Nat.zero_add]
      rw [List.getElem?_append_left hj];exact ev
    |succ i=>
      obtain ⟨γ,a1,a2⟩:=PartsG.els hr k i y (by simpa using e)
      refine ⟨γ,⟨a1.1,fun j v ev=> ?_⟩,a2⟩
      have:=a1.2 j v ev
      simp only [List.flatten_cons]
      rw [List.getElem?_append_right (by rw [hl,Nat.succ_mul];omega),hl]
      rw [show 0+(i+1)*r.sz+j - r.sz=0+i*r.sz+j by rw [Nat.succ_mul];omega];exact this
end
theorem PartsG.n {α:Type} {m:Fm} {R:List Fa} {r:Rp α} {i:Nat}:PartsG m R r i [] [] [] []:=trivial
theorem PartsG.c {α:Type} {m:Fm} {R:List Fa} {r:Rp α} {i:Nat} {x0:Operand} {v:Value} {x:α} {cs:List Value} {xs:List (Nat×Operand)} {vs:List (Nat×Value)} {es:List α} {css:List (List Value)} (γ:r.G) (h:evo m x0=some v) (hv:v.cells=cs.toArray) (he:r.enc x γ=cs) (hok:∀g,Holds g R→r.ok g x γ) (k:PartsG m R r (i+1) xs vs es css):PartsG m R r i ((i,x0) :: xs) ((i,v) :: vs) (x :: es) (cs :: css):=
  ⟨rfl,rfl,h,hv,fun g hr=>⟨γ,he,hok g hr⟩,by rw [← he];exact r.len _ _,k⟩
section
variable {P : Program} {c : Cx} {n : Sz} {Q : Exit → Act → World → Prop} {m : Fm} {O : List As} {R : List Fa} {α : Type} {d : Option Tmp} {ty : TypeId} {ps : String} {af : Array Edge} {gd : Option (Nat × Bool)}
theorem RowOn.take {T:TypeId} {r:Rp α} {p:Option Addr} {cap:Nat} {l:List α} {g h:Hp} (k:Nat) (s:RowOn T r p cap l g h):RowOn T r p cap (l.take k) g h:=by
  rcases s with ⟨h1,h2,h3,h4⟩|⟨b,off,cells,e1,e2,e3,e4,e5,e6⟩
  · exact .inl ⟨h1,h2,by rw [h3];simp,h4⟩
  · refine .inr ⟨b, off, cells, e1, by rw [List.length_take]; omega, e3, e4, e5, fun i x e => e6 i x ?_⟩
    rw [List.getElem?_take] at e
    split at e
    · exact e
    · cases e
theorem Sep.mapAt {g:Hp} {A B:As} (hAB:∀h,A.on g h→B.on g h):∀{O:List As} (i:Nat) {h:Hp},O[i]? =some A→Sep g O h→Sep g (O.set i B) h
  |[],_,_,e,_=>by simp at e
  |_ :: _,0,_,e,⟨h1,h2,a,e1,x,y⟩=>by simp at e;subst e;exact ⟨h1,h2,a,e1,hAB _ x,y⟩
  |_ :: _,i+1,_,e,⟨h1,h2,a,e1,x,y⟩=>⟨h1,h2,a,e1,x,Sep.mapAt hAB i (by simpa using e) y⟩
theorem Mem.rowTake {w:World} (i:Nat) {T:TypeId} {r:Rp α} {p:Option Addr} {cap:Nat} {l:List α} (hi:O[i]? =some (rowA T r p cap l)) (k:Nat) (mm:Mem c w O R):Mem c w (O.set i (rowA T r p cap (l.take k))) R:=
  mm.resep fun g h s=>Sep.mapAt (fun _ x=>RowOn.take k x) i hi s
theorem zDc {s e T:TypeId} {x ix:Operand} {r:Rp α} {p:Option Addr} {k cap:Nat} {kk:IntKind} {z:Int} {xs:List α} (i j:Nat) (hi:O[i]? =some (rowA T r p cap xs)) (hu:P.underlying s=some (.slice e)) (ht:(P.info? e).map (·.size)=some r.sz)
    (h1:evo m x=some (.slice p k cap)) (hk:k≤xs.length) (h2:evo m ix=some (.int kk z)) (hz:z=(j:Int)) (hj:j<k):
    Vl P n ⟨d,.indexAddr s x ix,ty,ps,af,gd⟩ m O R (Y:=Unit) (fun _=>True) (fun _=>rowPtr p (j*r.sz)) (fun _=>[]):=fun a f hh g sp hr=>by
  obtain ⟨k1,k2,ap,e0,hA,_,_⟩:=Sep.pick i hi sp
  refine ⟨(),trivial,trivial,fun w _ _=> ?_⟩
  have hA':RowOn T r p cap xs g k1:=hA
  rcases hA' with ⟨_,_,rfl,_⟩|⟨b,off,cells,rfl,_⟩
  · simp at hk;omega
  · subst hz
    have hrun:=zTa (P:=P) (a:=⟨b,off,none⟩) (cap:=cap) (kk:=kk) (w:=w) hu ht hj
    simp only [execOp,f.ev h1,f.ev h2,Sem.run_bind,hrun,Result.andThen_ok,Sem.run_pure,Addr.add_lit,rowPtr,Option.map_some]
end
theorem zEc {P:Program} {c:Cx} {n:Sz} {Q:Exit→Act→World→Prop} {m:Fm} {O:List As} {R:List Fa} {α:Type} {ro:Option Nat} {x:Code} {T:TypeId} {r:Rp α} {p:Option Addr} {cap:Nat} {l:List α} (i:Nat) (hi:O[i]? =some (rowA T r p cap l)) (k:l.length≤cap∧cap≤9223372036854775807→RunC (ro:=ro) P Q c n x m O R):RunC (ro:=ro) P Q c n x m O R:=fun a w f mm=>by
  obtain ⟨hh,g,m2⟩:=mm
  obtain ⟨k1,k2,_,_,hA,_,_⟩:=Sep.pick i hi m2.sep
  have hA':RowOn T r p cap l g k1:=hA
  refine k ?_ a w f ⟨hh,g,m2⟩
  rcases hA' with ⟨_,h2,h3,_⟩|⟨b,off,cells,_,e2,e3,_⟩
  · subst h2;subst h3;exact ⟨Nat.le_refl _,by decide⟩
  · unfold maxLen at e3;omega
theorem MemAt.stay {c:Cx} {w w':World} {O:List As} {R:List Fa} {h g g2:Hp} (m:MemAt c w O R h g) (k:Kept ⟨w,Hp.emp,g2⟩ w'):MemAt c w' O R h g:=by
  have key:∀(x:Hp),Has w x→Has w' x:=fun x hx b o e=>by
    have h1:=hx b o e
    have hlt:=(Array.getElem?_eq_some_iff.1 h1).1
    rw [k.block b hlt rfl];exact h1
  refine ⟨m.sep,m.holds,m.apart,key _ m.hasH,key _ m.hasG,m.le,m.newG,m.newH,k.os.trans m.kept.os,k.tape.trans m.kept.tape,k.output.trans m.kept.output,Nat.le_trans m.kept.size k.size,fun b hb e=> ?_⟩
  rw [k.block b (Nat.lt_of_lt_of_le hb m.kept.size) rfl]
  exact m.kept.block b hb e
section
variable {P : Program} {c : Cx} {n : Sz} {Q : Exit → Act → World → Prop} {m : Fm} {O OW : List As} {R R' : List Fa} {ops : Array Oper} {ro : Option Nat} {l : List Oper} {wi k : Nat} {L : Array Bool} {α : Type} {ty : TypeId} {ps : String} {af : Array Edge} {gd : Option (Nat × Bool)}
theorem borrow_call {o:Oper} {v:Value} {js:List Nat} {T:TypeId} {r:Rp α} {p:Option Addr} {cap:Nat} {xs:List α} (i:Nat) (hi:O[i]? =some (rowA T r p cap xs)) (h:Ef P n o m [] R' (Y:=Unit) (fun _=>True) (fun _=>v) (fun _=>[]) (fun _=>[])) (hs:SelR js (slF r p cap xs :: R) R')
    {a:Act} {w:World} {hh g:Hp} (f:Fr n a m) (sp:Sep g O hh) (hr:Holds g R) (ap:hh.apart g) (hH:Has w hh) (hG:Has w g) {K:Act→World→Prop} (hK:∀w' g2,Kept ⟨w,Hp.emp,g2⟩ w'→K (a.put o.dst v) w'):WpB P o a w K Q:=by
  obtain ⟨k1,k2,ap12,e0,hA,_,_⟩:=Sep.pick i hi sp
  have hA':RowOn T r p cap xs g k1:=hA
  have hk1:k1.le hh:=by rw [e0];exact Hp.le_joinL _ _
  have apk:k1.apart g:=by rw [e0] at ap;exact (Hp.apart_join.1 ap).1
  have hsl:=rowA_sl hA' apk
  have hR2:Holds (g.join k1) (slF r p cap xs :: R):=⟨hsl,Holds.mono (Hp.le_joinL _ _) hr⟩
  exact h a f w Hp.emp (g.join k1) rfl (hs.holds hR2) (Hp.emp_apart _) (fun _ _ e=>by cases e) (Has.join hG (Has.mono hH hk1)) _ _ (fun _ w' _ hM=>by
    obtain ⟨h',g',mm'⟩:=hM
    exact hK w' _ mm'.kept)
theorem zVe {T:TypeId} {r:Rp α} {p:Option Addr} {cap:Nat} {zs:List α} (q:Nat) (hq:O[q]? =some (rowA T r p cap zs)) {i:Nat} {t0:Tmp} {xs:List Operand} {ats:Array TypeId} {f:Nat} {vs:List Value} {js:List Nat} {v:Value}
    (hne:Nat.beq i wi=false) (hi:ops[i]? =some ⟨some t0,.call ⟨.value (.func f),xs.toArray,ats⟩,ty,ps,af,gd⟩) (hw:wnt ops m ⟨some t0,.call ⟨.value (.func f),xs.toArray,ats⟩,ty,ps,af,gd⟩=some true) (hd:Nat.ble (t0+1) n.sz=true) (hx:evs m xs vs) (hc:CanEnter P f)
    (h:Con P f vs [] R' (Y:=Unit) (fun _=>True) (fun _=>v) (fun _=>[]) (fun _=>[])) (hs:SelR js (slF r p cap zs :: R) R')
    (kont:RunD P ops Q c n wi k (L.setIfInBounds i true) ((t0,v) :: m) OW O R):RunO P ops Q c n wi k L i m OW O R:=fun hQ hs' hcl hrd a w hw2 hr g fr s1 s2 ap mm=>by
  unfold wpOp
  simp only [hi]
  rw [if_pos (fr.wanted hw)]
  have he:Ef P n ⟨some t0,.call ⟨.value (.func f),xs.toArray,ats⟩,ty,ps,af,gd⟩ m [] R' (Y:=Unit) (fun _=>True) (fun _=>v) (fun _=>[]) (fun _=>[]):=zAc (first:=[]) (cap:=[]) rfl hx hc (by simpa using h)
  have hrle:=Hp.le_joinR ap
  have aph:hr.apart g:=(Hp.apart_join.1 mm.apart).2
  refine .inl<|WpB.wp (borrow_call q hq he hs fr s2 mm.holds aph (Has.mono mm.hasH hrle) mm.hasG (fun w' g2 kp=> ?_))
  have mm2:=mm.stay kp
  exact ⟨⟨Has.mono mm2.hasH hrle,mm2.hasG,fun _=>Has.mono mm2.hasH (Hp.le_joinL _ _)⟩,kont hQ hs' (hcl.step hrd) _ w' hw2 hr g (fr.put (d:=some t0) hd _) s1 s2 ap mm2⟩
end
end Go.Proofs.Ytefbbhiaalcjfaa.Sp
namespace Go.Proofs.Ytefbbhiaalcjfaa.Big
theorem valL_drop (A:List Int) (k:Nat):valL (A.drop k)=A.getD k 0+1000000000*valL (A.drop (k+1)):=by
  rcases Nat.lt_or_ge k A.length with h|h
  · rw [List.drop_eq_getElem_cons h,List.getD_eq_getElem?_getD,List.getElem?_eq_getElem h];rfl
  · rw [List.drop_eq_nil_of_le h,List.drop_eq_nil_of_le (by omega),List.getD_eq_getElem?_getD,List.getElem?_eq_none h];rfl
theorem valL_cut (A:List Int) (k:Nat) (h:k≤A.length):valL A=valL (A.take k)+pw k*valL (A.drop k):=by
  have h1:=valL_append (A.take k) (A.drop k)
  rw [List.take_append_drop,List.length_take,Nat.min_eq_left h] at h1;exact h1
theorem okL_drop {l:List Int} (h:okL l) (k:Nat):okL (l.drop k):=fun d hd=>h d (List.mem_of_mem_drop hd)
theorem valL_take_lt {l:List Int} (h:okL l) (k:Nat):0≤valL (l.take k)∧valL (l.take k)<pw k:=by
  have h1:=valL_lt (okL_take h k)
  have h2:=valL_nonneg (okL_take h k)
  have h3:=pw_mono (show (l.take k).length≤k by rw [List.length_take];omega)
  omega
theorem pad_set {n:Nat} {qs:List Int} (x:Int):(List.replicate (n+1) 0++qs).set n x=List.replicate n 0++x :: qs:=by
  rw [List.replicate_succ',List.append_assoc,List.set_append_right _ _ (by simp)];simp
structure ShI (A:List Int) (d:Int) (k:Nat) (qs:List Int) (r:Int):Prop where
  le:k≤A.length
  len:qs.length=A.length - k
  ok:okL qs
  r0:0≤r
  r1:r<d
  eq:valL qs*d+r=valL (A.drop k)
theorem ShI.start {A:List Int} {d:Int} (hd:0<d):ShI A d A.length [] 0:=⟨Nat.le_refl _,by simp,okL_nil,Int.le_refl _,hd,by simp [valL]⟩
theorem sh_digit {r d g:Int} (h0:0≤r) (h1:r<d) (hg:0≤g∧g<1000000000):0≤(r*1000000000+g) / d∧(r*1000000000+g) / d<1000000000:=by
  refine ⟨Int.ediv_nonneg (by omega) (by omega),?_⟩
  refine Int.ediv_lt_of_lt_mul (by omega) ?_
  have:(r+1)*1000000000≤d*1000000000:=Int.mul_le_mul_of_nonneg_right (by omega) (by decide)
  rw [Int.mul_comm d] at this;omega
theorem ShI.step {A:List Int} {d:Int} {k:Nat} {qs:List Int} {r:Int} (h:ShI A d (k+1) qs r) (hA:okL A):ShI A d k ((r*1000000000+A.getD k 0) / d :: qs) ((r*1000000000+A.getD k 0)%d):=by
  have hg:=okL_getD hA k
  have h0:=h.r0;have h1:=h.r1;have hle:=h.le
  have hd:0<d:=by omega
  refine ⟨by omega,by simp only [List.length_cons,h.len];omega,okL_cons.2 ⟨sh_digit h0 h1 hg,h.ok⟩,Int.emod_nonneg _ (by omega),Int.emod_lt_of_pos _ hd,?_⟩
  rw [valL_drop,←h.eq]
  have e:=Int.mul_ediv_add_emod (r*1000000000+A.getD k 0) d
  simp only [valL]
  rw [Int.add_mul,Int.mul_comm _ d]
  have e2:1000000000*valL qs*d=1000000000*(valL qs*d):=Int.mul_assoc _ _ _
  omega
theorem ShI.fin {a m:Nat} {qs:List Int} {r:Int} (h:ShI (digs a) (m:Int) 0 qs r):trimL qs=digs (a / m)∧r=((a%m:Nat):Int):=by
  have e:=h.eq;have h0:=h.r0;have h1:=h.r1;have hn:=valL_nonneg h.ok
  rw [List.drop_zero,valL_digs] at e
  have hq:valL qs=((a / m:Nat):Int):=by
    rw [Int.natCast_ediv]
    symm
    have e3:(a:Int)=r+valL qs*(m:Int):=by omega
    rw [e3,Int.add_mul_ediv_right _ _ (by omega),Int.ediv_eq_zero_of_lt h0 h1];omega
  refine ⟨trimL_of h.ok hq,?_⟩
  rw [Int.natCast_emod]
  have e3:(a:Int)=r+valL qs*(m:Int):=by omega
  rw [e3,Int.add_mul_emod_self_right,Int.emod_eq_of_lt h0 h1]
structure LgI (M n:Nat) (a v:Int) (jj:Nat) (u qs:List Int):Prop where
  ul:u.length=M
  uo:okL u
  ql:qs.length=M - n - jj
  qo:okL qs
  jle:jj+n≤M
  eq:valL u+v*pw jj*valL qs=a
  lt:valL u<v*pw jj
structure Gs (T v vt top g r:Int):Prop where
  eq:g*vt+r=top
  r0:0≤r
  g0:0≤g
  up:T<(g+1)*v
structure Tp (T v vt vs u2 u1 u0 w:Int):Prop where
  w1:1≤w
  vt1:1≤vt
  vt2:vt<1000000000
  vs0:0≤vs
  vs1:vs<1000000000
  a0:0≤u0∧u0<1000000000
  a1:0≤u1∧u1<1000000000
  a2:0≤u2∧u2<1000000000
  vlo:(vt*1000000000+vs)*w≤v
  vhi:v<(vt*1000000000+vs+1)*w
  tlo:((u2*1000000000+u1)*1000000000+u0)*w≤T
  thi:T<((u2*1000000000+u1)*1000000000+u0+1)*w
  tv:T<v*1000000000
theorem mul_le_of {a b w:Int} (hw:0≤w) (h:a≤b):a*w≤b*w:=Int.mul_le_mul_of_nonneg_right h hw
theorem lt_of_mul {a b w:Int} (hw:1≤w) (h:a*w<b*w):a<b:=Int.lt_of_mul_lt_mul_right h (by omega)
theorem Tp.top {T v vt vs u2 u1 u0 w:Int} (h:Tp T v vt vs u2 u1 u0 w):u2≤vt:=by
  have h1:=h.tlo;have h2:=h.tv;have h3:=h.vhi;have hw:=h.w1
  have h4:=h.a0;have h5:=h.a1;have h6:=h.vs1
  have h7:((u2*1000000000+u1)*1000000000+u0)*w<((vt*1000000000+vs+1)*1000000000)*w:=by
    have:v*1000000000<(vt*1000000000+vs+1)*w*1000000000:=by omega
    have e:(vt*1000000000+vs+1)*w*1000000000=((vt*1000000000+vs+1)*1000000000)*w:=by rw [Int.mul_assoc,Int.mul_assoc,Int.mul_comm w]
    omega
  have h8:=lt_of_mul hw h7
  omega
theorem Tp.start {T v vt vs u2 u1 u0 w:Int} (h:Tp T v vt vs u2 u1 u0 w):Gs T v vt (u2*1000000000+u1) ((u2*1000000000+u1) / vt) ((u2*1000000000+u1)%vt):=by
  have hv:=h.vt1;have h1:=h.a1;have h2:=h.a2;have hw:=h.w1
  have e:=Int.mul_ediv_add_emod (u2*1000000000+u1) vt
  have hr:=Int.emod_lt_of_pos (u2*1000000000+u1) (show 0<vt by omega)
  have hr0:=Int.emod_nonneg (u2*1000000000+u1) (show vt≠0 by omega)
  have hq0:0≤(u2*1000000000+u1) / vt:=Int.ediv_nonneg (by omega) (by omega)
  generalize (u2*1000000000+u1) / vt=g at*
  generalize (u2*1000000000+u1)%vt=r at*
  refine ⟨by rw [Int.mul_comm];exact e,hr0,hq0,?_⟩
  have ht:=h.thi;have hl:=h.vlo;have h0:=h.a0;have hs:=h.vs0
  have k1:(u2*1000000000+u1)*1000000000+u0+1≤(g+1)*(vt*1000000000+vs):=by
    have k2:(g+1)*(vt*1000000000+vs)=1000000000*(vt*g)+1000000000*vt+(g+1)*vs:=by grind
    have k3:0≤(g+1)*vs:=Int.mul_nonneg (by omega) hs
    omega
  have k4:=mul_le_of (show 0≤w by omega) k1
  have k5:(g+1)*(vt*1000000000+vs)*w≤(g+1)*v:=by rw [Int.mul_assoc];exact Int.mul_le_mul_of_nonneg_left hl (by omega)
  omega
theorem Gs.le {T v vt vs u2 u1 u0 w g r:Int} (h:Tp T v vt vs u2 u1 u0 w) (k:Gs T v vt (u2*1000000000+u1) g r):g≤2000000000∧r≤1000000000000000000:=by
  have h1:=h.top;have h2:=k.eq;have h3:=h.a1;have h4:=h.vt1;have h5:=k.r0;have h6:=k.g0;have h7:=h.vt2
  have h8:0≤g*vt:=Int.mul_nonneg h6 (by omega)
  refine ⟨?_,by omega⟩
  refine Decidable.byContradiction fun hc=> ?_
  have h9:2000000001*vt≤g*vt:=Int.mul_le_mul_of_nonneg_right (by omega) (by omega)
  omega
theorem Gs.step {T v vt vs u2 u1 u0 w g r:Int} (h:Tp T v vt vs u2 u1 u0 w) (k:Gs T v vt (u2*1000000000+u1) g r) (hc:1000000000≤g∨r*1000000000+u0<g*vs):1≤g∧Gs T v vt (u2*1000000000+u1) (g - 1) (r+vt):=by
  have hr:=k.r0;have hg:=k.g0;have he:=k.eq;have hv:=h.vt1;have h0:=h.a0;have hw:=h.w1
  have hg1:1≤g:=by
    rcases hc with hc|hc
    · omega
    · refine Decidable.byContradiction fun hn => ?_
      have:g=0:=by omega
      subst this;simp at hc;omega
  have hvp:0≤v:=by
    have h1:=h.vlo;have h2:=h.vs0
    have:0≤(vt*1000000000+vs)*w:=Int.mul_nonneg (by omega) (by omega)
    omega
  refine ⟨hg1,⟨by rw [Int.sub_mul];omega,by omega,by omega,?_⟩⟩
  rw [show g - 1+1=g by omega]
  rcases hc with hc|hc
  · have h1 := h.tv
    have:1000000000*v≤g*v:=mul_le_of hvp hc
    omega
  · have h1 := h.thi; have h2 := h.vlo
    have k1:(u2*1000000000+u1)*1000000000+u0+1≤g*(vt*1000000000+vs):=by
      have:g*(vt*1000000000+vs)=1000000000*(g*vt)+g*vs:=by grind
      omega
    have k4:=mul_le_of (show 0≤w by omega) k1
    have k5:g*(vt*1000000000+vs)*w≤g*v:=by rw [Int.mul_assoc];exact Int.mul_le_mul_of_nonneg_left h2 (by omega)
    omega
theorem Gs.fin {T v vt vs u2 u1 u0 w g r:Int} (h:Tp T v vt vs u2 u1 u0 w) (k:Gs T v vt (u2*1000000000+u1) g r) (h1:g<1000000000) (h2:g*vs≤r*1000000000+u0):g*v<T+v:=by
  have he:=k.eq;have hg:=k.g0;have hw:=h.w1;have hv:=h.vt1;have hs:=h.vs0
  have k1:g*(vt*1000000000+vs)≤(u2*1000000000+u1)*1000000000+u0:=by
    have:g*(vt*1000000000+vs)=1000000000*(g*vt)+g*vs:=by grind
    omega
  have k2:=mul_le_of (show 0≤w by omega) k1
  have k3:=h.tlo
  have hl:=h.vlo;have hh:=h.vhi
  have k4:g*(v - (vt*1000000000+vs)*w)≤g*w:=Int.mul_le_mul_of_nonneg_left (by rw [Int.add_mul (vt*1000000000+vs),Int.one_mul] at hh;omega) hg
  have k5:g*w≤999999999*w:=mul_le_of (by omega) (by omega)
  have k6:1000000000*w≤(vt*1000000000+vs)*w:=mul_le_of (by omega) (by omega)
  rw [Int.mul_sub,←Int.mul_assoc] at k4
  omega
theorem Gs.broke {T v vt vs u2 u1 u0 w g r:Int} (h:Tp T v vt vs u2 u1 u0 w) (k:Gs T v vt (u2*1000000000+u1) g r) (hb:1000000000≤r):g<1000000000∧g*vs≤r*1000000000+u0:=by
  have h1:=h.top;have he:=k.eq;have h3:=h.a1;have h4:=h.vt1;have hg:=k.g0;have h0:=h.a0
  have hlt:g<1000000000:=by
    refine Decidable.byContradiction fun hc=> ?_
    have:1000000000*vt≤g*vt:=mul_le_of (by omega) (by omega)
    omega
  refine ⟨hlt,?_⟩
  have hs:=h.vs1;have hs0:=h.vs0
  have:g*vs≤999999999*vs:=mul_le_of hs0 (by omega)
  omega
theorem LgI.T {M n:Nat} {a v:Int} {j:Nat} {u qs:List Int} (h:LgI M n a v (j+1) u qs):valL u=valL (u.take j)+pw j*valL (u.drop j)∧0≤valL (u.take j)∧valL (u.take j)<pw j∧0≤valL (u.drop j)∧valL (u.drop j)<v*1000000000:=by
  have h1:=valL_cut u j (by rw [h.ul];have:=h.jle;omega)
  have h2:=valL_take_lt h.uo j
  have h3:=valL_nonneg (okL_drop h.uo j)
  refine ⟨h1,h2.1,h2.2,h3,?_⟩
  have h4:=h.lt
  rw [pw_succ] at h4
  have h5:pw j*valL (u.drop j)<pw j*(v*1000000000):=by
    have:v*(1000000000*pw j)=pw j*(v*1000000000):=by ac_rfl
    omega
  exact Int.lt_of_mul_lt_mul_left h5 (Int.le_of_lt (pw_pos j))
theorem drop_high {l:List Int} (h:okL l) {k:Nat} (hv:valL l<pw k):valL (l.drop k)=0:=by
  rcases Nat.lt_or_ge l.length k with hk|hk
  · rw [List.drop_eq_nil_of_le (by omega)];rfl
  · have h1 := valL_cut l k hk
    have h2:=valL_nonneg (okL_take h k)
    have h3:=valL_nonneg (okL_drop h k)
    refine Decidable.byContradiction fun hc=> ?_
    have:pw k*1≤pw k*valL (l.drop k):=Int.mul_le_mul_of_nonneg_left (by omega) (Int.le_of_lt (pw_pos k))
    omega
theorem getD_drop' (l:List Int) (i k:Nat):(l.drop i).getD k 0=l.getD (i+k) 0:=by simp [List.getD_eq_getElem?_getD]
theorem digs_top {b:Nat} {n:Nat} (h:(digs b).length=n+1):1≤(digs b).getD n 0:=by
  have h1:=canon_digs (b:Int)
  unfold canon at h1
  rw [Int.natAbs_natCast,if_neg (by omega),h,Nat.add_sub_cancel] at h1
  have h2:=okL_getD (digs_ok b) n
  omega
theorem LgI.high {M n:Nat} {a:Int} {b j:Nat} {u qs:List Int} (h:LgI M n a (b:Int) (j+1) u qs) (hn:(digs b).length=n):valL (u.drop (j+(n+1)))=0:=by
  have ht:=h.T
  have hb:=digs_lt b
  rw [hn] at hb
  have:=drop_high (okL_drop h.uo j) (k:=n+1) (by rw [pw_succ];omega)
  rw [List.drop_drop] at this;exact this
theorem LgI.tp {M m:Nat} {a:Int} {b j:Nat} {u qs:List Int} (h:LgI M (m+2) a (b:Int) (j+1) u qs) (hn:(digs b).length=m+2):Tp (valL (u.drop j)) b ((digs b).getD (m+1) 0) ((digs b).getD m 0) (u.getD (j+(m+2)) 0) (u.getD (j+(m+1)) 0) (u.getD (j+m) 0) (pw m):=by
  have ht:=h.T
  have hh:=h.high hn
  have hvb:=valL_digs b
  have e1:valL (digs b)=valL ((digs b).take m)+pw m*valL ((digs b).drop m):=valL_cut _ _ (by omega)
  have e2:valL ((digs b).drop m)=(digs b).getD m 0+1000000000*(digs b).getD (m+1) 0:=by
    rw [valL_drop,valL_drop,List.drop_eq_nil_of_le (show (digs b).length≤m+1+1 by omega)];simp [valL]
  have e3:=valL_take_lt (digs_ok b) m
  have f1:valL (u.drop j)=valL ((u.drop j).take m)+pw m*valL ((u.drop j).drop m):=valL_cut _ _ (by rw [List.length_drop,h.ul];have:=h.jle;omega)
  have f2:valL ((u.drop j).drop m)=u.getD (j+m) 0+1000000000*(u.getD (j+(m+1)) 0+1000000000*u.getD (j+(m+2)) 0):=by
    rw [List.drop_drop,valL_drop,valL_drop,valL_drop,show j+m+1+1+1=j+(m+2+1) by omega,hh,show j+m+1=j+(m+1) by omega,show j+(m+1)+1=j+(m+2) by omega];omega
  have f3:=valL_take_lt (okL_drop h.uo j) m
  have hp:=pw_pos m
  have ob:=digs_ok b
  have g1:=okL_getD ob (m+1);have g0:=okL_getD ob m
  have c0:=okL_getD h.uo (j+m);have c1:=okL_getD h.uo (j+(m+1));have c2:=okL_getD h.uo (j+(m+2))
  refine ⟨by omega,digs_top (n:=m+1) hn,g1.2,g0.1,g0.2,c0,c1,c2,?_,?_,?_,?_,ht.2.2.2.2⟩
  · rw [← hvb, e1, e2]
    have:(digs b).getD (m+1) 0*1000000000+(digs b).getD m 0=(digs b).getD m 0+1000000000*(digs b).getD (m+1) 0:=by omega
    rw [this,Int.mul_comm];omega
  · rw [← hvb, e1, e2]
    have:(digs b).getD (m+1) 0*1000000000+(digs b).getD m 0+1=((digs b).getD m 0+1000000000*(digs b).getD (m+1) 0)+1:=by omega
    rw [this,Int.add_mul,Int.mul_comm _ (pw m)];omega
  · rw [f1, f2]
    have:(u.getD (j+(m+2)) 0*1000000000+u.getD (j+(m+1)) 0)*1000000000+u.getD (j+m) 0=u.getD (j+m) 0+1000000000*(u.getD (j+(m+1)) 0+1000000000*u.getD (j+(m+2)) 0):=by omega
    rw [this,Int.mul_comm];omega
  · rw [f1, f2]
    have:(u.getD (j+(m+2)) 0*1000000000+u.getD (j+(m+1)) 0)*1000000000+u.getD (j+m) 0+1=(u.getD (j+m) 0+1000000000*(u.getD (j+(m+1)) 0+1000000000*u.getD (j+(m+2)) 0))+1:=by omega
    rw [this,Int.add_mul,Int.mul_comm _ (pw m)];omega
structure MsI (u:List Int) (j:Nat) (g:Int) (v:List Int) (i:Nat) (u2:List Int) (bo ca:Int):Prop where
  len:u2.length=u.length
  ok:okL u2
  b0:0≤bo
  b1:bo≤1
  c0:0≤ca
  c1:ca<1000000000
  far:∀k,j+i≤k→u2.getD k 0=u.getD k 0
  eq:valL u2=valL u - pw j*(g*valL (v.take i))+pw (j+i)*(bo+ca)
theorem MsI.start {u:List Int} (h:okL u) (j:Nat) (g:Int) (v:List Int):MsI u j g v 0 u 0 0:=⟨rfl,h,by decide,by decide,by decide,by decide,fun _ _=>rfl,by simp [valL]⟩
theorem ms_carry {g x ca:Int} (hg:0≤g∧g<1000000000) (hx:0≤x∧x<1000000000) (hc:0≤ca∧ca<1000000000):0≤g*x+ca∧g*x+ca≤999999999000000000∧0≤(g*x+ca) / 1000000000∧(g*x+ca) / 1000000000<1000000000:=by
  have h1:0≤g*x:=Int.mul_nonneg hg.1 hx.1
  have h2:g*x≤999999999*x:=mul_le_of hx.1 (by omega)
  omega
theorem MsI.step {u:List Int} {j:Nat} {g:Int} {v:List Int} {i:Nat} {u2:List Int} {bo ca y bo2:Int} (h:MsI u j g v i u2 bo ca) (hg:0≤g∧g<1000000000) (hv:okL v) (hj:j+i<u.length)
    (hy:y=u2.getD (j+i) 0 - bo - (g*v.getD i 0+ca)%1000000000+1000000000*bo2) (hy0:0≤y∧y<1000000000) (hb:0≤bo2∧bo2≤1):MsI u j g v (i+1) (u2.set (j+i) y) bo2 ((g*v.getD i 0+ca) / 1000000000):=by
  have hc:=ms_carry hg (okL_getD hv i) ⟨h.c0,h.c1⟩
  refine ⟨by rw [List.length_set];exact h.len,okL_set h.ok hy0.1 hy0.2,hb.1,hb.2,hc.2.2.1,hc.2.2.2,fun k hk=>by rw [getD_set_ne (by omega)];exact h.far k (by omega),?_⟩
  rw [valL_set y (by rw [h.len];exact hj),h.eq,valL_take_succ,hy]
  have e:=Int.mul_ediv_add_emod (g*v.getD i 0+ca) 1000000000
  rw [← Nat.add_assoc,pw_succ,pw_add]
  generalize (g*v.getD i 0+ca) / 1000000000=q at*
  generalize (g*v.getD i 0+ca)%1000000000=r at*
  have e2:r=g*v.getD i 0+ca - 1000000000*q:=by omega
  subst e2
  grind
structure AbI (u:List Int) (j:Nat) (v:List Int) (i:Nat) (u2:List Int) (ca:Int):Prop where
  len:u2.length=u.length
  ok:okL u2
  c0:0≤ca
  c1:ca≤1
  far:∀k,j+i≤k→u2.getD k 0=u.getD k 0
  eq:valL u2=valL u+pw j*valL (v.take i) - pw (j+i)*ca
theorem AbI.start {u:List Int} (h:okL u) (j:Nat) (v:List Int):AbI u j v 0 u 0:=⟨rfl,h,by decide,by decide,fun _ _=>rfl,by simp [valL]⟩
theorem AbI.step {u:List Int} {j:Nat} {v:List Int} {i:Nat} {u2:List Int} {ca y c2:Int} (h:AbI u j v i u2 ca) (hj:j+i<u.length)
    (hy:y=u2.getD (j+i) 0+v.getD i 0+ca - 1000000000*c2) (hy0:0≤y∧y<1000000000) (hb:0≤c2∧c2≤1):AbI u j v (i+1) (u2.set (j+i) y) c2:=by
  refine ⟨by rw [List.length_set];exact h.len,okL_set h.ok hy0.1 hy0.2,hb.1,hb.2,fun k hk=>by rw [getD_set_ne (by omega)];exact h.far k (by omega),?_⟩
  rw [valL_set y (by rw [h.len];exact hj),h.eq,valL_take_succ,hy]
  rw [← Nat.add_assoc,pw_succ,pw_add]
  grind
theorem LgI.next {M n:Nat} {a v:Int} {j:Nat} {u qs:List Int} (h:LgI M n a v (j+1) u qs) {u':List Int} {g:Int} (hl:u'.length=M) (ho:okL u') (hg:0≤g∧g<1000000000) (he:valL u'=valL u - pw j*(g*v)) (hlt:valL u'<v*pw j):LgI M n a v j u' (g :: qs):=by
  have hj:=h.jle
  refine ⟨hl,ho,by rw [List.length_cons,h.ql];omega,okL_cons.2 ⟨hg,h.qo⟩,by omega,?_,hlt⟩
  rw [he,←h.eq,pw_succ]
  simp only [valL]
  grind
theorem LgI.bound {M n:Nat} {a v:Int} {j:Nat} {u qs:List Int} (h:LgI M n a v (j+1) u qs) {g:Int} (hup:valL (u.drop j)<(g+1)*v):valL u<pw j*((g+1)*v):=by
  obtain ⟨h1,h2,h3,h4,_⟩:=h.T
  have:pw j*(valL (u.drop j)+1)≤pw j*((g+1)*v):=Int.mul_le_mul_of_nonneg_left (by omega) (Int.le_of_lt (pw_pos j))
  rw [Int.mul_add,Int.mul_one] at this;omega
theorem LgI.low {M n:Nat} {a v:Int} {j:Nat} {u qs:List Int} (h:LgI M n a v (j+1) u qs) {g:Int} (hdn:g*v<valL (u.drop j)+v):pw j*(g*v)<valL u+pw j*v:=by
  obtain ⟨h1,h2,h3,h4,_⟩:=h.T
  have:pw j*(g*v+1)≤pw j*(valL (u.drop j)+v):=Int.mul_le_mul_of_nonneg_left (by omega) (Int.le_of_lt (pw_pos j))
  rw [Int.mul_add,Int.mul_add,Int.mul_one] at this
  have:=pw_pos j;omega
theorem at_split {u:List Int} {k:Nat} (hk:k<u.length) (h0:valL (u.drop (k+1))=0):valL u=valL (u.take k)+pw k*u.getD k 0:=by
  rw [valL_cut u k (by omega),valL_drop u k,h0];simp
theorem drop_far {u u2:List Int} {k:Nat} (hl:u2.length=u.length) (h:∀i,k≤i→u2.getD i 0=u.getD i 0):u2.drop k=u.drop k:=
  ext_getD (by simp [hl]) (fun i hi=>by rw [getD_drop',getD_drop'];exact h _ (by omega))
theorem LgI.pos {M n:Nat} {a:Int} {b j:Nat} {u qs:List Int} (h:LgI M n a (b:Int) (j+1) u qs) {g:Int} (hg:0≤g∧g<1000000000) (hup:valL (u.drop j)<(g+1)*(b:Int))
    {u2:List Int} {bo ca:Int} (hm:MsI u j g (digs b) n u2 bo ca) (hn:(digs b).length=n) (hd:0≤u2.getD (j+n) 0 - bo - ca):LgI M n a (b:Int) j (u2.set (j+n) (u2.getD (j+n) 0 - bo - ca)) (g :: qs):=by
  have hj:=h.jle
  have hx:=okL_getD hm.ok (j+n)
  have h1:=hm.b0;have h2:=hm.c0
  have he:valL (u2.set (j+n) (u2.getD (j+n) 0 - bo - ca))=valL u - pw j*(g*(b:Int)):=by
    rw [valL_set _ (by rw [hm.len,h.ul];omega),hm.eq,List.take_of_length_le (by omega),valL_digs]
    grind
  refine h.next (by rw [List.length_set,hm.len,h.ul]) (okL_set hm.ok hd (by omega)) hg he ?_
  have:=h.bound hup
  rw [he]
  have e:pw j*((g+1)*(b:Int))=pw j*(g*(b:Int))+(b:Int)*pw j:=by grind
  omega
theorem LgI.neg1 {M n:Nat} {a:Int} {b j:Nat} {u qs:List Int} (h:LgI M n a (b:Int) (j+1) u qs) {g:Int}
    {u2:List Int} {bo ca:Int} (hm:MsI u j g (digs b) n u2 bo ca) (hn:(digs b).length=n) (hd:u2.getD (j+n) 0 - bo - ca<0):g≠0:=fun hg=>by
  subst hg
  have hj:=h.jle
  have hlen2:j+n<u2.length:=by rw [hm.len,h.ul];omega
  have hhi2:valL (u2.drop (j+n+1))=0:=by rw [drop_far hm.len (fun i hi=>hm.far i (by omega))];exact h.high hn
  have s2:=at_split hlen2 hhi2
  have t2:=valL_take_lt hm.ok (j+n)
  have hp:=pw_pos (j+n)
  have e:=hm.eq
  have:pw (j+n)*(u2.getD (j+n) 0 - bo - ca)≤pw (j+n)*(-1):=Int.mul_le_mul_of_nonneg_left (by omega) (Int.le_of_lt hp)
  rw [Int.mul_sub,Int.mul_sub] at this
  rw [Int.mul_add,Int.zero_mul,Int.mul_zero] at e
  have:=valL_nonneg h.uo
  omega
theorem LgI.neg {M n:Nat} {a:Int} {b j:Nat} {u qs:List Int} (h:LgI M n a (b:Int) (j+1) u qs) {g:Int} (hg:0≤g∧g<1000000000) (hdn:g*(b:Int)<valL (u.drop j)+(b:Int)) (hup:valL (u.drop j)<(g+1)*(b:Int))
    {u2:List Int} {bo ca:Int} (hm:MsI u j g (digs b) n u2 bo ca) (hn:(digs b).length=n) (hd:u2.getD (j+n) 0 - bo - ca<0)
    {u4:List Int} {c:Int} (hb:AbI (u2.set (j+n) (u2.getD (j+n) 0 - bo - ca+1000000000)) j (digs b) n u4 c):1≤g∧LgI M n a (b:Int) j (u4.set (j+n) ((u4.getD (j+n) 0+c)%1000000000)) ((g - 1) :: qs):=by
  have hj:=h.jle
  have hx:=okL_getD hm.ok (j+n)
  have hy:=okL_getD hb.ok (j+n)
  have h1:=hm.b0;have h2:=hm.c0;have h3:=hm.b1;have h4:=hm.c1;have c0:=hb.c0;have c1:=hb.c1
  have hlen2:j+n<u2.length:=by rw [hm.len,h.ul];omega
  have hlen4:j+n<u4.length:=by rw [hb.len,List.length_set];exact hlen2
  have hhi:=h.high hn
  have hhi2:valL (u2.drop (j+n+1))=0:=by rw [drop_far hm.len (fun i hi=>hm.far i (by omega))];exact hhi
  have s2:=at_split hlen2 hhi2
  have t2:=valL_take_lt hm.ok (j+n)
  have hp:=pw_pos (j+n)
  -- what the subtraction left is below 0
  have hS:valL u - pw j*(g*(b:Int))<0:=by
    have e:=hm.eq
    rw [List.take_of_length_le (by omega),valL_digs] at e
    have:pw (j+n)*(u2.getD (j+n) 0 - bo - ca)≤pw (j+n)*(-1):=Int.mul_le_mul_of_nonneg_left (by omega) (Int.le_of_lt hp)
    rw [Int.mul_sub,Int.mul_sub] at this
    rw [Int.mul_add] at e
    omega
  have hlow:=h.low hdn
  have hg1:1≤g:=by
    refine Decidable.byContradiction fun hc=> ?_
    have:g=0:=by omega
    subst this
    have:=valL_nonneg h.uo
    simp at hS;omega
  refine ⟨hg1,?_⟩
  have e4:=hb.eq
  rw [List.take_of_length_le (by omega),valL_digs,valL_set _ hlen2] at e4
  have e2:=hm.eq
  rw [List.take_of_length_le (by omega),valL_digs] at e2
  have hhi4:valL (u4.drop (j+n+1))=0:=by
    rw [drop_far (u:=u2.set (j+n) (u2.getD (j+n) 0 - bo - ca+1000000000)) hb.len (fun i hi=>hb.far i (by omega)),drop_far (u:=u2) (by simp) (fun i hi=>getD_set_ne (by omega) _)];exact hhi2
  have s4:=at_split hlen4 hhi4
  have t4:=valL_take_lt hb.ok (j+n)
  have hk:=Int.mul_ediv_add_emod (u4.getD (j+n) 0+c) 1000000000
  have hk0:=Int.emod_nonneg (u4.getD (j+n) 0+c) (show (1000000000:Int)≠0 by decide)
  have hk1:=Int.emod_lt_of_pos (u4.getD (j+n) 0+c) (show (0:Int)<1000000000 by decide)
  have hset:valL (u4.set (j+n) ((u4.getD (j+n) 0+c)%1000000000))=valL u4+pw (j+n)*((u4.getD (j+n) 0+c)%1000000000 - u4.getD (j+n) 0):=valL_set _ hlen4
  have hbig:(b:Int)<pw n:=by rw [← hn];exact digs_lt b
  have hbw:pw j*(b:Int)<pw (j+n):=by rw [pw_add];exact Int.mul_lt_mul_of_pos_left hbig (pw_pos j)
  -- the last group overflows
  have hco:(u4.getD (j+n) 0+c) / 1000000000=1:=by
    have hq:(u4.getD (j+n) 0+c) / 1000000000=0∨(u4.getD (j+n) 0+c) / 1000000000=1:=by omega
    rcases hq with hq|hq
    · exfalso
      have hy2:u4.getD (j+n) 0+c≤999999999:=by omega
      have m1:pw (j+n)*(u4.getD (j+n) 0+c)≤pw (j+n)*999999999:=Int.mul_le_mul_of_nonneg_left hy2 (Int.le_of_lt hp)
      rw [Int.mul_add] at m1
      have m2:pw (j+n)*(u2.getD (j+n) 0 - bo - ca+1000000000 - u2.getD (j+n) 0)=pw (j+n)*1000000000 - pw (j+n)*(bo+ca):=by grind
      rw [m2] at e4
      omega
    · exact hq
  have he:valL (u4.set (j+n) ((u4.getD (j+n) 0+c)%1000000000))=valL u - pw j*((g - 1)*(b:Int)):=by
    rw [hset,e4,e2]
    have hr:(u4.getD (j+n) 0+c)%1000000000=u4.getD (j+n) 0+c - 1000000000:=by omega
    rw [hr]
    grind
  refine h.next (by rw [List.length_set,hb.len,List.length_set,hm.len,h.ul]) (okL_set hb.ok hk0 hk1) ⟨by omega,by omega⟩ he ?_
  rw [he]
  have e:pw j*((g - 1)*(b:Int))=pw j*(g*(b:Int)) - (b:Int)*pw j:=by grind
  omega
theorem LgI.start {M n a b:Nat} {u:List Int} (ho:okL u) (hl:u.length=M) (hv:valL u=(a:Int)) (hn:(digs b).length=n) (hM:n+1≤M) (hu:valL u<pw (M - 1)) (h1:1≤n):LgI M n (a:Int) (b:Int) (M - n) u []:=by
  refine ⟨hl,ho,by simp,okL_nil,by omega,by rw [hv];simp [valL],?_⟩
  have h2:pw (n - 1)≤(b:Int):=digs_low (by omega)
  have h3:pw (M - 1)=pw (n - 1)*pw (M - n):=by rw [← pw_add];congr 1;omega
  have h4:pw (n - 1)*pw (M - n)≤(b:Int)*pw (M - n):=mul_le_of (Int.le_of_lt (pw_pos _)) h2
  omega
theorem LgI.fin {M n a b:Nat} {u qs:List Int} (h:LgI M n (a:Int) (b:Int) 0 u qs) (hn:(digs b).length=n):trimL qs=digs (a / b)∧trimL (u.take n)=digs (a%b):=by
  have e:=h.eq;have hlt:=h.lt
  rw [pw_zero,Int.mul_one] at e hlt
  have h0:=valL_nonneg h.uo;have hq0:=valL_nonneg h.qo
  have hu:valL u=((a%b:Nat):Int):=by
    rw [Int.natCast_emod,←e,Int.add_mul_emod_self_left,Int.emod_eq_of_lt h0 hlt]
  have hq:valL qs=((a / b:Nat):Int):=by
    rw [Int.natCast_ediv,←e,Int.add_mul_ediv_left _ _ (by omega),Int.ediv_eq_zero_of_lt h0 hlt];omega
  refine ⟨trimL_of h.qo hq,trimL_of (okL_take h.uo n) ?_⟩
  have h1:=h.jle
  have hc:=valL_cut u n (by rw [h.ul];omega)
  have hz:valL (u.drop n)=0:=drop_high h.uo (by have:=digs_lt b;rw [hn] at this;omega)
  rw [hz,Int.mul_zero,Int.add_zero] at hc
  rw [← hc,hu]
end Go.Proofs.Ytefbbhiaalcjfaa.Big
namespace Go.Proofs.Ytefbbhiaalcjfaa.Big
def fq (x y:Int):Int:=if 0<y then x / y else (-x) / (-y)
def fr (x y:Int):Int:=x - y*fq x y
theorem ediv_of {x y q r:Int} (h:x=y*q+r) (h0:0≤r) (h1:r<y):x / y=q:=by
  rw [h,Int.add_comm,Int.add_mul_ediv_left _ _ (by omega),Int.ediv_eq_zero_of_lt h0 h1];omega
theorem fq_of {x y q r:Int} (h:x=y*q+r) (hr:(0<y∧0≤r∧r<y)∨(y<0∧y<r∧r≤0)):fq x y=q∧fr x y=r:=by
  have e:fq x y=q:=by
    unfold fq
    rcases hr with ⟨h1,h2,h3⟩|⟨h1,h2,h3⟩
    · rw [if_pos h1];exact ediv_of h h2 h3
    · rw [if_neg (by omega)]
      exact ediv_of (r:= -r) (by rw [h,Int.neg_mul];omega) (by omega) (by omega)
  refine ⟨e,?_⟩
  unfold fr;rw [e];omega
theorem abs_split (x y:Int):(x.natAbs:Int)=(y.natAbs:Int)*((x.natAbs / y.natAbs:Nat):Int)+((x.natAbs%y.natAbs:Nat):Int):=by
  rw [← Int.natCast_mul,←Int.natCast_add,Nat.div_add_mod]
theorem sg_t (n:Int):sg true n= -n:=rfl
theorem sg_f (n:Int):sg false n=n:=rfl
theorem fq_same {x y:Int} (hy:y≠0) (h:decide (x<0)=decide (y<0)):sg false ((x.natAbs / y.natAbs:Nat):Int)=fq x y∧sg (decide (y<0)) ((x.natAbs%y.natAbs:Nat):Int)=fr x y:=by
  have e:=abs_split x y
  have hlt:=Nat.mod_lt x.natAbs (show 0<y.natAbs by omega)
  generalize x.natAbs / y.natAbs=q at*
  generalize x.natAbs%y.natAbs=r at*
  rw [sg_f]
  by_cases hy0:y<0
  · have hx : x < 0 := by simpa [hy0] using h
    rw [decide_eq_true hy0,sg_t]
    have:=fq_of (x:=x) (y:=y) (q:=(q:Int)) (r:= -(r:Int)) (by
      have h1:(y.natAbs:Int)= -y:=by omega
      rw [h1,Int.neg_mul] at e;omega) (.inr (by omega))
    exact ⟨this.1.symm,this.2.symm⟩
  · have hx : ¬ x < 0 := by simpa [hy0] using h
    rw [decide_eq_false hy0,sg_f]
    have:=fq_of (x:=x) (y:=y) (q:=(q:Int)) (r:=(r:Int)) (by
      have h1:(y.natAbs:Int)=y:=by omega
      rw [h1] at e;omega) (.inl (by omega))
    exact ⟨this.1.symm,this.2.symm⟩
theorem fq_even {x y:Int} (hy:y≠0) (h:¬decide (x<0)=decide (y<0)) (hr:x.natAbs%y.natAbs=0):sg true ((x.natAbs / y.natAbs:Nat):Int)=fq x y∧sg (decide (y<0)) ((x.natAbs%y.natAbs:Nat):Int)=fr x y:=by
  have e:=abs_split x y
  rw [hr] at e ⊢
  generalize x.natAbs / y.natAbs=q at*
  rw [sg_t,show sg (decide (y<0)) ((0:Nat):Int)=0 from sg_zero _]
  have hs:x=y*(-(q:Int))+0:=by
    rw [Int.mul_neg]
    by_cases hy0:y<0
    · have hx : ¬ x < 0 := by simpa [hy0] using h
      have h1:(y.natAbs:Int)= -y:=by omega
      rw [h1,Int.neg_mul] at e;omega
    · have hx : x < 0 := by simpa [hy0] using h
      have h1:(y.natAbs:Int)=y:=by omega
      rw [h1] at e;omega
  have:=fq_of hs (by omega)
  exact ⟨this.1.symm,this.2.symm⟩
theorem fq_odd {x y:Int} (hy:y≠0) (h:¬decide (x<0)=decide (y<0)) (hr:x.natAbs%y.natAbs≠0):sg true ((x.natAbs / y.natAbs+1:Nat):Int)=fq x y∧sg (decide (y<0)) ((y.natAbs - x.natAbs%y.natAbs:Nat):Int)=fr x y:=by
  have e:=abs_split x y
  have hlt:=Nat.mod_lt x.natAbs (show 0<y.natAbs by omega)
  generalize x.natAbs / y.natAbs=q at*
  generalize x.natAbs%y.natAbs=r at*
  rw [sg_t]
  by_cases hy0:y<0
  · have hx : ¬ x < 0 := by simpa [hy0] using h
    rw [decide_eq_true hy0,sg_t]
    have:=fq_of (x:=x) (y:=y) (q:= -((q+1:Nat):Int)) (r:= -((y.natAbs - r:Nat):Int)) (by
      have h1:(y.natAbs:Int)= -y:=by omega
      rw [h1,Int.neg_mul] at e
      rw [Int.mul_neg,Int.natCast_add,Int.mul_add];omega) (.inr (by omega))
    exact ⟨this.1.symm,this.2.symm⟩
  · have hx : x < 0 := by simpa [hy0] using h
    rw [decide_eq_false hy0,sg_f]
    have:=fq_of (x:=x) (y:=y) (q:= -((q+1:Nat):Int)) (r:=((y.natAbs - r:Nat):Int)) (by
      have h1:(y.natAbs:Int)=y:=by omega
      rw [h1] at e
      rw [Int.mul_neg,Int.natCast_add,Int.mul_add];omega) (.inl (by omega))
    exact ⟨this.1.symm,this.2.symm⟩
theorem fr_nonneg {x y:Int} (h:0<y):fq x y=x / y∧fr x y=x%y:=by
  have e:fq x y=x / y:=by unfold fq;rw [if_pos h]
  refine ⟨e,?_⟩
  unfold fr;rw [e]
  have:=Int.mul_ediv_add_emod x y;omega
theorem gcd_rest {a b:Nat}:Nat.gcd b (a%b)=Nat.gcd a b:=by rw [Nat.gcd_comm b,←Nat.gcd_rec,Nat.gcd_comm]
theorem ln_mono' {a b:Nat} (h:a≤b):(digs a).length≤(digs b).length:=by
  refine digs_len ?_
  have:=digs_lt b;omega
theorem len_mul_ge {a s:Nat} (h:1≤s):(digs a).length≤(digs (a*s)).length:=ln_mono' (Nat.le_mul_of_pos_right a h)
theorem len_mul_le (a s:Nat):(digs (a*s)).length≤(digs a).length+(digs s).length:=by
  refine digs_len ?_
  rw [Int.natCast_mul,pw_add]
  have h1:(a:Int)*s≤pw (digs a).length*s:=Int.mul_le_mul_of_nonneg_right (Int.le_of_lt (digs_lt a)) (by omega)
  have h2:pw (digs a).length*(s:Int)<pw (digs a).length*pw (digs s).length:=Int.mul_lt_mul_of_pos_left (digs_lt s) (pw_pos _)
  omega
theorem scale_len {b n:Nat} (hn:(digs b).length=n+1) {s:Nat} (hs:s=(1000000000 / ((digs b).getD n 0+1)).toNat):1≤s∧s≤500000000∧(digs (b*s)).length=n+1:=by
  have ht:=digs_top hn
  have ho:=okL_getD (digs_ok b) n
  have h1:1≤1000000000 / ((digs b).getD n 0+1):=by
    refine Int.le_ediv_of_mul_le (by omega) (by omega)
  have h2:1000000000 / ((digs b).getD n 0+1)≤500000000:=by
    refine Int.ediv_le_of_le_mul (by omega) (by omega)
  have hs1:(s:Int)=1000000000 / ((digs b).getD n 0+1):=by rw [hs];exact Int.toNat_of_nonneg (by omega)
  refine ⟨by omega,by omega,?_⟩
  have hge:=len_mul_ge (a:=b) (s:=s) (by omega)
  have hle:(digs (b*s)).length≤n+1:=by
    refine digs_len ?_
    have hv:=valL_digs b
    have hc:=valL_cut (digs b) n (by omega)
    have hd:valL ((digs b).drop n)=(digs b).getD n 0:=by rw [valL_drop,List.drop_eq_nil_of_le (by omega)];simp [valL]
    have hl:=valL_take_lt (digs_ok b) n
    rw [hd] at hc
    have hp:=pw_pos n
    have hb:(b:Int)<((digs b).getD n 0+1)*pw n:=by rw [Int.add_mul,Int.mul_comm _ (pw n)];omega
    have hm:((digs b).getD n 0+1)*(s:Int)≤1000000000:=by rw [hs1];exact Int.mul_ediv_self_le (by omega)
    rw [Int.natCast_mul,pw_succ]
    have h3:(b:Int)*s<((digs b).getD n 0+1)*pw n*s:=Int.mul_lt_mul_of_pos_right hb (by omega)
    have h4:((digs b).getD n 0+1)*pw n*s=((digs b).getD n 0+1)*s*pw n:=by ac_rfl
    have h5:((digs b).getD n 0+1)*(s:Int)*pw n≤1000000000*pw n:=mul_le_of (Int.le_of_lt hp) hm
    omega
  omega
theorem scale_div {a b s:Nat} (hs:1≤s):a*s / (b*s)=a / b∧a*s%(b*s) / s=a%b:=by
  refine ⟨Nat.mul_div_mul_right a b (by omega),?_⟩
  rw [Nat.mul_mod_mul_right,Nat.mul_div_cancel _ (by omega)]
theorem digs_one {s:Nat} (h1:1≤s) (h2:s<1000000000):digs s=[(s:Int)]:=by
  rw [digs_pos (by omega),Nat.mod_eq_of_lt h2,Nat.div_eq_of_lt h2,digs_zero]
theorem mul_lim3 {g x:Int} (h0:0≤g) (h1:g≤2000000000) (h2:0≤x) (h3:x<1000000000):0≤g*x∧g*x≤2000000000000000000:=by
  have a:=Int.mul_nonneg h0 h2
  have b:g*x≤2000000000*x:=mul_le_of h2 h1
  omega
theorem one_digit {b:Nat} (h:(digs b).length=1):(digs b).getD 0 0=(b:Int):=by
  have h1:=valL_cut (digs b) 0 (Nat.zero_le _)
  have h2:=valL_drop (digs b) 0
  rw [List.drop_eq_nil_of_le (show (digs b).length≤0+1 by omega)] at h2
  rw [valL_digs,h2] at h1
  simp [valL,pw_zero] at h1;exact h1.symm
theorem zre {b:Nat} (h:0<b):1≤(digs b).length:=by
  refine Nat.pos_of_ne_zero fun e=> ?_
  have:=len_digs_nil.1 e;omega
theorem two_lt {a:Nat} (h:(digs a).length≤2):a<1000000000000000000:=by
  have h1:=digs_lt a
  have h2:=pw_mono h
  have:pw 2=1000000000000000000:=by decide
  omega
theorem word_step {A:List Int} (k:Nat):valL (A.drop (k+1))*1000000000+A.getD k 0=valL (A.drop k):=by rw [valL_drop A k];omega
theorem word_keep {a k:Nat} {z:Int} (h:k+1≤(digs a).length) (hz:z=valL ((digs a).drop (k+1))):(z*1000000000+(digs a).getD k 0)*pw k≤(a:Int):=by
  have h1:=valL_cut (digs a) k (by omega)
  rw [valL_digs,valL_drop,←hz] at h1
  have h2:=valL_take_lt (digs_ok a) k
  have:(z*1000000000+(digs a).getD k 0)*pw k=pw k*((digs a).getD k 0+1000000000*z):=by grind
  omega
theorem word_lim {a k:Nat} {z:Int} (hl:(digs a).length≤2) (h:k+1≤(digs a).length) (h0:0≤z) (hp:z*pw (k+1)≤(a:Int)):z<1000000000:=by
  have h1:=two_lt hl
  have h2:=pw_mono (show 1≤k+1 by omega)
  have h3:pw 1=1000000000:=by decide
  refine Decidable.byContradiction fun hc=> ?_
  have h4:1000000000*pw (k+1)≤z*pw (k+1):=mul_le_of (Int.le_of_lt (pw_pos _)) (by omega)
  omega
theorem sign_le {x:Int}:(x<0∧x.sign= -1)∨(x=0∧x.sign=0)∨(0<x∧x.sign=1):=by
  rcases Int.lt_trichotomy x 0 with h|h|h
  · exact .inl ⟨h,Int.sign_eq_neg_one_of_neg h⟩
  · exact .inr (.inl ⟨h,by rw [h];rfl⟩)
  · exact .inr (.inr ⟨h,Int.sign_eq_one_of_pos h⟩)
end Go.Proofs.Ytefbbhiaalcjfaa.Big
namespace Go.Proofs.Ytefbbhiaalcjfaa.Big
structure ScI (A:List Int) (d:Int) (i:Nat) (os:List Int) (cy:Int):Prop where
  le:i≤A.length
  len:os.length=i
  ok:okL os
  c0:0≤cy
  c1:cy<1000000000
  val:valL os+pw i*cy=valL (A.take i)*d
theorem ScI.start (A:List Int) (d:Int):ScI A d 0 [] 0:=⟨Nat.zero_le _,rfl,okL_nil,by decide,by decide,by simp [valL]⟩
theorem sc_lim {x d cy:Int} (hx:0≤x∧x<1000000000) (hd:0≤d∧d<1000000000) (hc:0≤cy∧cy<1000000000):0≤x*d∧x*d+cy<1000000000000000000∧0≤(x*d+cy) / 1000000000∧(x*d+cy) / 1000000000<1000000000:=by
  have:=mul_lim hx hd;omega
theorem ScI.step {A:List Int} {d:Int} {i:Nat} {os:List Int} {cy:Int} (h:ScI A d i os cy) (hA:okL A) (hd:0≤d∧d<1000000000) (hi:i<A.length):
    ScI A d (i+1) (os++[(A.getD i 0*d+cy)%1000000000]) ((A.getD i 0*d+cy) / 1000000000):=by
  have hl:=sc_lim (okL_getD hA i) hd ⟨h.c0,h.c1⟩
  refine ⟨by omega,by simp [h.len],okL_snoc h.ok (by omega) (by omega),hl.2.2.1,hl.2.2.2,?_⟩
  rw [valL_snoc,h.len,valL_take_succ,pw_succ]
  have e:=h.val
  have hs:(A.getD i 0*d+cy)=1000000000*((A.getD i 0*d+cy) / 1000000000)+(A.getD i 0*d+cy)%1000000000:=by omega
  generalize (A.getD i 0*d+cy) / 1000000000=q at*
  generalize (A.getD i 0*d+cy)%1000000000=r at*
  have h2:pw i*(A.getD i 0*d+cy)=pw i*(1000000000*q+r):=by rw [hs]
  generalize A.getD i 0=x at*
  generalize valL os=a at*
  generalize valL (A.take i)=b at*
  generalize pw i=p at*
  grind
theorem ScI.fin {a d i:Nat} {os:List Int} {cy:Int} (h:ScI (digs a) (d:Int) i os cy) (hi:(digs a).length≤i):okL (os++[cy])∧valL (os++[cy])=((a*d:Nat):Int):=by
  refine ⟨okL_snoc h.ok h.c0 h.c1,?_⟩
  rw [valL_snoc,h.len,h.val,List.take_of_length_le hi,valL_digs,Int.natCast_mul]
theorem pair_val {a:Nat} (h:(digs a).length≤2):(digs a).getD 1 0*1000000000+(digs a).getD 0 0=(a:Int):=by
  have h0:=valL_drop (digs a) 0
  have h1:=valL_drop (digs a) 1
  rw [List.drop_zero,valL_digs] at h0
  have h2:valL ((digs a).drop 2)=0:=by rw [List.drop_eq_nil_of_le h];rfl
  simp only [Nat.zero_add,Nat.reduceAdd] at h0 h1
  omega
theorem two_val {u:Nat} (h:u<1000000000000000000):okL [((u%1000000000:Nat):Int),((u / 1000000000:Nat):Int)]∧valL [((u%1000000000:Nat):Int),((u / 1000000000:Nat):Int)]=(u:Int):=by
  refine ⟨okL_cons.2 ⟨by omega,okL_cons.2 ⟨by omega,okL_nil⟩⟩,?_⟩
  simp only [valL];omega
theorem valL_cut' (A:List Int) (k:Nat):valL A=valL (A.take k)+pw k*valL (A.drop k):=by
  by_cases h:k≤A.length
  · exact valL_cut A k h
  · rw [List.drop_eq_nil_of_le (by omega),List.take_of_length_le (by omega)];simp [valL]
structure PtI (A V:Nat) (j:Nat) (qs:List Int) (R:Nat):Prop where
  le:j≤(digs A).length
  ok:okL qs
  val:valL ((digs A).drop j)=valL qs*V+R
  lt:R<V
theorem PtI.start {A V n j R:Nat} (hV:(digs V).length=n+1) (hj:j+n=(digs A).length) (hR:valL ((digs A).drop j)=(R:Int)):PtI A V j [] R:=by
  refine ⟨by omega,okL_nil,by rw [hR];simp [valL],?_⟩
  have h1:=valL_lt (okL_drop (digs_ok A) j)
  rw [hR,List.length_drop,show (digs A).length - j=n by omega] at h1
  have h2:=digs_low (k:=n) (n:=V) (by omega)
  omega
theorem pt_lim {V R d:Nat} (h:R<V) (hd:d<1000000000):R*1000000000+d<V*1000000000:=by omega
theorem PtI.step {A V j:Nat} {qs:List Int} {R d g r:Nat} (h:PtI A V (j+1) qs R) (hd:(digs A).getD j 0=(d:Int)) (hg:r+V*g=R*1000000000+d) (hr:r<V):PtI A V j ((g:Int) :: qs) r:=by
  have hd1:=okL_getD (digs_ok A) j
  have hgl:g<1000000000:=by
    have h1:=pt_lim h.lt (show d<1000000000 by omega)
    exact Nat.lt_of_mul_lt_mul_left (a:=V) (by omega)
  refine ⟨Nat.le_of_succ_le h.le,okL_cons.2 ⟨by omega,h.ok⟩,?_,hr⟩
  rw [valL_drop,h.val,hd]
  simp only [valL]
  have hg2:(r:Int)+(V:Int)*(g:Int)=(R:Int)*1000000000+(d:Int):=by
    rw [← Int.natCast_mul];omega
  generalize valL qs=q at*
  grind
theorem pt_guess {W V m d:Nat} (hW:W<V*1000000000) (hV:(digs V).length=m+1) (hd:(d:Int)=((digs W).getD (m+1) 0*1000000000+(digs W).getD m 0) / ((digs V).getD m 0+1)):V*d≤W∧d<1000000000:=by
  have hw:=valL_cut' (digs W) m
  have hv:=valL_cut' (digs V) m
  rw [valL_digs] at hw hv
  have h1:=valL_drop (digs W) m
  have h2:=valL_drop (digs W) (m+1)
  have h3:=valL_nonneg (okL_drop (digs_ok W) (m+1+1))
  have h4:=valL_drop (digs V) m
  rw [List.drop_eq_nil_of_le (by omega:(digs V).length≤m+1)] at h4
  have h5:=valL_take_lt (digs_ok W) m
  have h6:=valL_take_lt (digs_ok V) m
  have h7:=okL_getD (digs_ok V) m
  have hp:=pw_pos m
  have h8:valL ([]:List Int)=0:=rfl
  have h9:=Int.mul_ediv_self_le (x:=(digs W).getD (m+1) 0*1000000000+(digs W).getD m 0) (k:=(digs V).getD m 0+1) (by omega)
  rw [← hd] at h9
  have key:(V:Int)*(d:Int)≤(W:Int):=by
    have a1:(V:Int)≤((digs V).getD m 0+1)*pw m:=by
      rw [h8,Int.mul_zero,Int.add_zero] at h4;rw [hv,h4,Int.add_mul,Int.one_mul,Int.mul_comm (pw m)];omega
    have a2:((digs W).getD (m+1) 0*1000000000+(digs W).getD m 0)*pw m≤(W:Int):=by
      have:(digs W).getD (m+1) 0*1000000000+(digs W).getD m 0≤valL ((digs W).drop m):=by omega
      have:=mul_le_of (Int.le_of_lt hp) this
      rw [Int.mul_comm (valL _)] at this;omega
    have a3:=mul_le_of (w:=(d:Int)) (by omega) a1
    have a4:=mul_le_of (Int.le_of_lt hp) h9
    have a5:((digs V).getD m 0+1)*pw m*(d:Int)=((digs V).getD m 0+1)*(d:Int)*pw m:=by grind
    omega
  have k2:V*d≤W:=by rw [← Int.natCast_mul] at key;omega
  exact ⟨k2,Nat.lt_of_mul_lt_mul_left (a:=V) (by omega)⟩
theorem PtI.fin {A V:Nat} {qs:List Int} {R:Nat} (h:PtI A V 0 qs R):valL qs=((A / V:Nat):Int)∧R=A%V:=by
  have h0:=h.val
  rw [List.drop_zero,valL_digs] at h0
  have hn:=valL_nonneg h.ok
  have hl:=h.lt
  obtain ⟨q,hq⟩:∃q:Nat,valL qs=(q:Int):=⟨(valL qs).toNat,by omega⟩
  rw [hq,←Int.natCast_mul] at h0
  have h1:A=R+V*q:=by rw [Nat.mul_comm];omega
  rw [hq,h1,Nat.add_mul_div_left _ _ (by omega),Nat.div_eq_of_lt hl,Nat.add_mul_mod_self_left,Nat.mod_eq_of_lt hl]
  simp
theorem pt_wlen {W V m:Nat} (hW:W<V*1000000000) (hV:(digs V).length=m+1):(digs W).length≤m+2:=by
  refine digs_len ?_
  have h1:=digs_lt V
  rw [hV] at h1
  rw [pw_succ];omega
theorem made_nat {l:List Int} {n:Nat} (ho:okL l) (h:valL l=(n:Int)):(sg false (valL l)).natAbs=n:=by
  rw [sg_abs (valL_nonneg ho),h];exact Int.toNat_natCast _
theorem ln_fq {x y:Int} (hy:y≠0):ln (fq x y)≤ln x+2:=by
  have key:(fq x y).natAbs≤x.natAbs+1:=by
    have hd:=Nat.div_le_self x.natAbs y.natAbs
    by_cases h:decide (x<0)=decide (y<0)
    · rw [← (fq_same hy h).1,sg_f,Int.natAbs_natCast];omega
    · by_cases hr : x.natAbs % y.natAbs = 0
      · rw [← (fq_even hy h hr).1,sg_t,Int.natAbs_neg,Int.natAbs_natCast];omega
      · rw [← (fq_odd hy h hr).1,sg_t,Int.natAbs_neg,Int.natAbs_natCast];omega
  unfold ln
  have h1:=ln_mono' key
  have h2:=len_add x.natAbs 1
  have h3:(digs 1).length=1:=by decide
  omega
end Go.Proofs.Ytefbbhiaalcjfaa.Big
namespace Go.Proofs.Ytefbbhiaalcjfaa.Big
abbrev RQ:=(Bool×List Int)×(Bool×List Int)
def qok (x:RQ):Prop:=canon x.1.1 x.1.2∧canon x.2.1 x.2.2∧0<raw x.2.1 x.2.2∧Nat.gcd (raw x.1.1 x.1.2).natAbs (raw x.2.1 x.2.2).natAbs=1
instance (x:RQ):Decidable (qok x):=inferInstanceAs (Decidable (_∧_))
def qv (x:RQ):Rat:=if qok x then Rat.divInt (raw x.1.1 x.1.2) (raw x.2.1 x.2.2) else 0
theorem divInt_parts {n d:Int} (hd:d≠0):(Rat.divInt n d).num=d.sign*n / (Nat.gcd n.natAbs d.natAbs:Nat)∧((Rat.divInt n d).den:Int)=((d.natAbs / Nat.gcd n.natAbs d.natAbs:Nat):Int):=by
  rw [Rat.num_divInt,Rat.den_divInt,if_neg hd]
  have:Int.gcd d n=Nat.gcd n.natAbs d.natAbs:=by unfold Int.gcd;rw [Nat.gcd_comm]
  rw [this];exact ⟨rfl,rfl⟩
theorem qv_parts {x:RQ} (h:qok x):(qv x).num=raw x.1.1 x.1.2∧((qv x).den:Int)=raw x.2.1 x.2.2:=by
  unfold qv;rw [if_pos h]
  obtain ⟨_,_,h3,h4⟩:=h
  obtain ⟨e1,e2⟩:=divInt_parts (n:=raw x.1.1 x.1.2) (d:=raw x.2.1 x.2.2) (by omega)
  rw [e1,e2,h4,Int.sign_eq_one_of_pos h3]
  refine ⟨by simp,by rw [Nat.div_one];omega⟩
theorem qv_not {x:RQ} (h:¬qok x):qv x=0:=by unfold qv;rw [if_neg h]
def rq (q:Rat):RQ:=((decide (q.num<0),digs q.num.natAbs),(decide ((q.den:Int)<0),digs (q.den:Int).natAbs))
theorem rq_ok (q:Rat):qok (rq q):=by
  refine ⟨canon_digs _,canon_digs _,?_,?_⟩
  · simp only [rq];rw [raw_big];have:=q.den_pos;omega
  · simp only [rq];rw [raw_big,raw_big,Int.natAbs_natCast];exact q.reduced
theorem rq_v (q:Rat):qv (rq q)=q:=by
  obtain ⟨h1,h2⟩:=qv_parts (rq_ok q)
  refine Rat.ext ?_ ?_
  · rw [h1];simp only [rq];rw [raw_big]
  · have : ((qv (rq q)).den : Int) = (q.den : Int) := by rw [h2]; simp only [rq]; rw [raw_big]
    omega
def hq (q:Rat):Nat:=max (ln q.num) (ln (q.den:Int))
theorem hq_num (q:Rat):ln q.num≤hq q:=Nat.le_max_left _ _
theorem hq_den (q:Rat):ln (q.den:Int)≤hq q:=Nat.le_max_right _ _
theorem hq_divInt {n d:Int} (hd:d≠0):hq (Rat.divInt n d)≤max (ln n) (ln d):=by
  obtain ⟨e1,e2⟩:=divInt_parts (n:=n) hd
  unfold hq
  rw [e1,e2]
  have h1:ln (d.sign*n / (Nat.gcd n.natAbs d.natAbs:Nat))≤ln n:=by
    refine zod ?_
    refine Nat.le_trans (Int.natAbs_ediv_le_natAbs _ _) ?_
    rw [Int.natAbs_mul,Int.natAbs_sign_of_ne_zero hd,Nat.one_mul];exact Nat.le_refl _
  have h2:ln ((d.natAbs / Nat.gcd n.natAbs d.natAbs:Nat):Int)≤ln d:=by
    refine zod ?_
    rw [Int.natAbs_natCast];exact Nat.div_le_self _ _
  omega
theorem den_ne (q:Rat):(q.den:Int)≠0:=by have:=q.den_pos;omega
theorem add_parts (x y:Rat):x+y=Rat.divInt (x.num*y.den+y.num*x.den) (x.den*y.den):=by
  rw [Rat.add_def',←Int.natCast_mul,Rat.divInt_ofNat]
theorem hq_add (x y:Rat):hq (x+y)≤hq x+hq y+1:=by
  rw [add_parts]
  refine Nat.le_trans (hq_divInt (Int.mul_ne_zero (den_ne x) (den_ne y))) ?_
  have h1:=zFd (x.num*y.den) (y.num*x.den)
  have h2:=zOb x.num y.den;have h3:=zOb y.num x.den;have h4:=zOb x.den y.den
  have a:=hq_num x;have b:=hq_den x;have c:=hq_num y;have d:=hq_den y
  omega
theorem hq_neg (x:Rat):hq (-x)=hq x:=by unfold hq;rw [Rat.neg_num,Rat.neg_den,zY]
theorem hq_sub (x y:Rat):hq (x - y)≤hq x+hq y+1:=by
  rw [Rat.sub_eq_add_neg];have:=hq_add x (-y);rw [hq_neg] at this;exact this
theorem ln_one:ln 1=1:=by decide
theorem hq_int (z:Int):hq (z:Rat)≤max (ln z) 1:=by
  unfold hq;rw [Rat.num_intCast,Rat.den_intCast];exact Nat.le_of_eq (by rw [show ((1:Nat):Int)=1 from rfl,ln_one])
theorem hq_zero:hq 0=1:=by decide
theorem hq_64 {z:Int} (h1: -9223372036854775808≤z) (h2:z≤9223372036854775807):hq (z:Rat)≤3:=by
  have:=zpe h1 h2;have:=hq_int z;omega
theorem gcd_pos_right {n d:Int} (hd:d≠0):0<Nat.gcd n.natAbs d.natAbs:=Nat.gcd_pos_of_pos_right _ (by omega)
theorem red_pos {n d:Int} (hd:0<d):fq n (Nat.gcd n.natAbs d.natAbs:Nat)=(Rat.divInt n d).num∧fq d (Nat.gcd n.natAbs d.natAbs:Nat)=((Rat.divInt n d).den:Int):=by
  obtain ⟨e1,e2⟩:=divInt_parts (n:=n) (d:=d) (by omega)
  have hg:=gcd_pos_right (n:=n) (d:=d) (by omega)
  rw [e1,e2,Int.sign_eq_one_of_pos hd,Int.one_mul]
  rw [(fr_nonneg (x:=n) (y:=(Nat.gcd n.natAbs d.natAbs:Nat)) (by omega)).1,(fr_nonneg (x:=d) (y:=(Nat.gcd n.natAbs d.natAbs:Nat)) (by omega)).1]
  refine ⟨rfl,?_⟩
  rw [Int.natCast_ediv,Int.natAbs_of_nonneg (by omega)]
theorem red_flip {n d:Int} (hd:d<0):fq (-n) (Nat.gcd (-n).natAbs (-d).natAbs:Nat)=(Rat.divInt n d).num∧fq (-d) (Nat.gcd (-n).natAbs (-d).natAbs:Nat)=((Rat.divInt n d).den:Int):=by
  have:=red_pos (n:= -n) (d:= -d) (by omega)
  rw [Rat.neg_divInt_neg] at this;exact this
theorem fq_negneg (x y:Int) (hy:y≠0):fq x (-y)=fq (-x) y:=by
  unfold fq
  by_cases h:0<y
  · rw [if_neg (by omega),if_pos h,Int.neg_neg]
  · rw [if_pos (by omega),if_neg h,Int.neg_neg]
theorem red_neg {n d:Int} (hd:d<0):fq n (-(Nat.gcd n.natAbs d.natAbs:Nat))=(Rat.divInt n d).num∧fq d (-(Nat.gcd n.natAbs d.natAbs:Nat))=((Rat.divInt n d).den:Int):=by
  have hg:=gcd_pos_right (n:=n) (d:=d) (by omega)
  rw [fq_negneg _ _ (by omega),fq_negneg _ _ (by omega)]
  have:=red_flip (n:=n) hd
  rw [Int.natAbs_neg,Int.natAbs_neg] at this;exact this
def sgq (q:Rat):Int:=q.num.sign
theorem cmp_sub (a b:Int):cmp a b=(a - b).sign:=by
  unfold cmp
  split
  · rw [Int.sign_eq_neg_one_of_neg (by omega)]
  · split
    · rw [Int.sign_eq_one_of_pos (by omega)]
    · rw [show a - b=0 by omega];rfl
theorem sgq_zero {x:Rat}:sgq x=0↔x=0:=by unfold sgq;rw [Int.sign_eq_zero_iff_zero,Rat.num_eq_zero]
theorem sgq_sub_zero {x y:Rat}:sgq (x - y)=0↔x=y:=by
  rw [sgq_zero]
  constructor
  · intro h;grind
  · intro h;grind
theorem cmp_zero {x y:Int}:cmp x y=0↔x=y:=by
  unfold cmp;split
  · omega
  · split <;> omega
theorem qok_gcd {x:RQ} (h:canon x.1.1 x.1.2∧canon x.2.1 x.2.2∧0<raw x.2.1 x.2.2):cmp ((Nat.gcd (raw x.1.1 x.1.2).natAbs (raw x.2.1 x.2.2).natAbs:Nat):Int) 1=0↔qok x:=by
  rw [cmp_zero];exact ⟨fun e=>⟨h.1,h.2.1,h.2.2,by omega⟩,fun e=>by have:=e.2.2.2;omega⟩
theorem sgn_le {c d:Prop} {z:Int} (hc:c) (hd:d):z.sign≤0↔¬(c∧d∧0<z):=by
  rcases Int.lt_trichotomy z 0 with h|h|h
  · rw [Int.sign_eq_neg_one_of_neg h];exact ⟨fun _ k=>by omega,fun _=>by decide⟩
  · rw [h];exact ⟨fun _ k=>by omega,fun _=>by decide⟩
  · rw [Int.sign_eq_one_of_pos h];exact ⟨fun k=>by omega,fun k=>absurd ⟨hc,hd,h⟩ k⟩
theorem raw_parts {x:RQ} (h1:nn x.1.2) (h2:nn x.2.2) (h:qok x):decide ((qv x).num<0)=x.1.1∧digs (qv x).num.natAbs=x.1.2∧decide (((qv x).den:Int)<0)=x.2.1∧digs (((qv x).den:Nat):Int).natAbs=x.2.2:=by
  obtain ⟨e1,e2⟩:=qv_parts h
  have d1:=raw_digs (s:=x.1.1) h1;have d2:=raw_digs (s:=x.2.1) h2
  rw [if_pos h.1] at d1;rw [if_pos h.2.1] at d2
  rw [e1,e2]
  exact ⟨raw_sign h1 h.1,d1,raw_sign h2 h.2.1,d2⟩
theorem zTc {n d:Int} (hd:d≠0):ln (Nat.gcd n.natAbs d.natAbs:Nat)≤ln d:=by
  refine zod ?_
  rw [Int.natAbs_natCast];exact Nat.gcd_le_right _ (by omega)
theorem divInt_nil {n d:Int} (hd:d=0):Rat.divInt n d=0:=by rw [hd,Rat.divInt_zero]
theorem sign_zero {z:Int}:z.sign=0↔z=0:=Int.sign_eq_zero_iff_zero
theorem qok_sub {x:RQ} (h:canon x.1.1 x.1.2∧canon x.2.1 x.2.2∧0<raw x.2.1 x.2.2):(((Nat.gcd (raw x.1.1 x.1.2).natAbs (raw x.2.1 x.2.2).natAbs:Nat):Int) - 1).sign=0↔qok x:=by
  rw [← cmp_sub];exact qok_gcd h
end Go.Proofs.Ytefbbhiaalcjfaa.Big
namespace Go.Proofs.Ytefbbhiaalcjfaa.Sp
open Go
set_option linter.unusedVariables false
def Wd.raw (g:Hp) (w:Wd) (x:Bool×List Int):Prop:=w.s=x.1∧w.n=x.2.length∧x.2.length≤1048576∧Sl (rI .u32) g w.p w.c x.2
theorem Wd.raw_mono {g g':Hp} {w:Wd} {x:Bool×List Int} (h:g.le g') (k:w.raw g x):w.raw g' x:=⟨k.1,k.2.1,k.2.2.1,k.2.2.2.mono h⟩
def qF (c:Bool) (u v:Wd) (q:Rat):Fa:=⟨fun g=>∃x:Big.RQ,u.raw g x.1∧v.raw g x.2∧Big.qv x=q∧(c=true→Big.qok x),fun _ _ h ⟨x,a,b,d⟩=>⟨x,Wd.raw_mono h a,Wd.raw_mono h b,d⟩⟩
theorem Sl.nn {g:Hp} {p:Option Addr} {c:Nat} {l:List Int} (h:Sl (rI .u32) g p c l):Big.nn l:=fun d hd=>by
  obtain ⟨j,hj⟩:=List.getElem?_of_mem hd
  obtain ⟨_,_,_,_,_,e⟩:=h.2.2.2 j d hj
  exact (zw.1 e).1
theorem Wd.raw_is {g:Hp} {w:Wd} {x:Bool×List Int} (h:w.raw g x) (hc:Big.canon x.1 x.2):w.is g (Big.raw x.1 x.2):=by
  have hn:=h.2.2.2.nn
  have hd:=Big.raw_digs (s:=x.1) hn
  rw [if_pos hc] at hd
  exact ⟨h.1.trans (Big.raw_sign hn hc).symm,by rw [hd];exact h.2.1,by rw [hd];exact h.2.2.2⟩
theorem Wd.is_raw {g:Hp} {w:Wd} {z:Int} (h:w.is g z) (hl:Big.ln z≤1048576):w.raw g (decide (z<0),Big.digs z.natAbs):=⟨h.1,h.2.1,hl,h.2.2⟩
section
variable {P : Program} {c : Cx} {n : Sz} {Q : Exit → Act → World → Prop} {m : Fm} {O : List As} {R : List Fa} {f : Nat} {u v : Wd} {q : Rat}
theorem qF_parts {g:Hp} (h:(qF true u v q).on g):u.is g q.num∧v.is g (q.den:Int):=by
  obtain ⟨x,a,b,e,ok⟩:=h
  have hk:=ok rfl
  obtain ⟨e1,e2⟩:=Big.qv_parts hk
  rw [← e,e1,e2]
  exact ⟨Wd.raw_is a hk.1,Wd.raw_is b hk.2.1⟩
theorem qF_open (i:Nat) (hi:R[i]? =some (qF true u v q)):∀g,Holds g R→∃x:Unit,True∧Holds g [zF u q.num,zF v (q.den:Int)]:=fun g h=>
  ⟨(),trivial,(qF_parts (Holds.get i hi h)).1,(qF_parts (Holds.get i hi h)).2,trivial⟩
theorem qF_make {g:Hp} (h1:u.is g q.num) (h2:v.is g (q.den:Int)) (hl:Big.hq q≤1048576):(qF true u v q).on g:=
  ⟨Big.rq q,Wd.is_raw h1 (Nat.le_trans (Big.hq_num q) hl),Wd.is_raw h2 (Nat.le_trans (Big.hq_den q) hl),Big.rq_v q,fun _=>Big.rq_ok q⟩
theorem qF_close (i j:Nat) {a b:Int} (hi:R[i]? =some (zF u a)) (hj:R[j]? =some (zF v b)) (h:a=q.num∧b=(q.den:Int)∧Big.hq q≤1048576):∀g,Holds g R→(qF true u v q).on g:=fun g r=>by
  have h1:u.is g a:=Holds.get i hi r
  have h2:v.is g b:=Holds.get j hj r
  rw [h.1] at h1;rw [h.2.1] at h2
  exact qF_make h1 h2 h.2.2
theorem qF_len {g:Hp} {k:Bool} (h:(qF k u v q).on g):Big.hq q≤1048576:=by
  obtain ⟨x,a,b,e,ok⟩:=h
  by_cases hk:Big.qok x
  · obtain ⟨e1, e2⟩ := Big.qv_parts hk
    rw [← e]
    unfold Big.hq Big.ln
    rw [e1,e2]
    have h1:=Big.raw_digs (s:=x.1.1) a.2.2.2.nn
    have h2:=Big.raw_digs (s:=x.2.1) b.2.2.2.nn
    rw [if_pos hk.1] at h1;rw [if_pos hk.2.1] at h2
    rw [h1,h2]
    have:=a.2.2.1;have:=b.2.2.1;omega
  · rw [Big.qv_not hk] at e
    rw [← e,Big.hq_zero];omega
theorem qF_none (g:Hp):(qF false wz wz 0).on g:=⟨((false,[]),(false,[])),⟨rfl,rfl,by decide,Sl.nil _ _⟩,⟨rfl,rfl,by decide,Sl.nil _ _⟩,by decide +kernel,fun h=>by cases h⟩
abbrev rawL (p:Option Addr) (c:Nat) (x:Bool×List Int):List Value:=[.bool x.1,.slice p x.2.length c]
theorem Wd.rawL_eq {g:Hp} {w:Wd} {x:Bool×List Int} (h:w.raw g x):[w.b,w.l]=rawL w.p w.c x:=by rw [Wd.b,Wd.l,h.1,h.2.1]
theorem zif {k:Bool} {Y:Type} {φ:Y→Prop} {val:Y→Value} {O':Y→List As} {R':Y→List Fa}
    (h:∀(x:Big.RQ),Big.qv x=q→(k=true→Big.qok x)→x.1.2.length≤1048576→x.2.2.length≤1048576→Con P f [.agg #[.bool x.1.1,.slice u.p x.1.2.length u.c,.bool x.2.1,.slice v.p x.2.2.length v.c]] O [slF (rI .u32) u.p u.c x.1.2,slF (rI .u32) v.p v.c x.2.2] φ val O' R'):
    Con P f [.agg #[u.b,u.l,v.b,v.l]] O [qF k u v q] φ val O' R':=
  Con.of (X:=Big.RQ) (ψ:=fun x=>Big.qv x=q∧(k=true→Big.qok x)∧x.1.2.length≤1048576∧x.2.2.length≤1048576) (A2:=fun x=>[.agg #[.bool x.1.1,.slice u.p x.1.2.length u.c,.bool x.2.1,.slice v.p x.2.2.length v.c]]) (R2:=fun x=>[slF (rI .u32) u.p u.c x.1.2,slF (rI .u32) v.p v.c x.2.2])
    (fun x hx=>h x hx.1 hx.2.1 hx.2.2.1 hx.2.2.2) fun g r=>by
      obtain ⟨x,a,b,e,ok⟩:=r.1
      refine ⟨x,⟨e,ok,a.2.2.1,b.2.2.1⟩,?_,a.2.2.2,b.2.2.2,trivial⟩
      have h1:=Wd.rawL_eq a;have h2:=Wd.rawL_eq b
      simp only [rawL,List.cons.injEq,and_true] at h1 h2
      rw [h1.1,h1.2,h2.1,h2.2]
theorem zrf {k:Bool} {Y:Type} {φ:Y→Prop} {val:Y→Value} {O':Y→List As} {R':Y→List Fa}
    (h:∀(x:Big.RQ),Big.qv x=q→(k=true→Big.qok x)→x.1.2.length≤1048576→x.2.2.length≤1048576→Big.hq q≤1048576→Con P f [.agg #[.bool x.1.1,.slice u.p x.1.2.length u.c,.bool x.2.1,.slice v.p x.2.2.length v.c]] O [slF (rI .u32) u.p u.c x.1.2,slF (rI .u32) v.p v.c x.2.2] φ val O' R'):
    Con P f [.agg #[u.b,u.l,v.b,v.l]] O [qF k u v q] φ val O' R':=fun w hh g s r ap h1 h2=>
  zif (fun x a b c d=>h x a b c d (qF_len r.1)) w hh g s r ap h1 h2
theorem zse {A:List Value} {z d:Int} {k:Value} (h:Con P f A O R (Y:=Option Addr×Nat×Option Addr×Nat) (fun _=>True) (fun y=> .tuple #[.agg #[.bool (decide (z<0)),.slice y.1 (Big.digs z.natAbs).length y.2.1],.agg #[.bool (decide (d<0)),.slice y.2.2.1 (Big.digs d.natAbs).length y.2.2.2],k]) (fun _=>[]) (fun y=>[bigS z y.1 y.2.1,bigS d y.2.2.1 y.2.2.2])):
    Con P f A O R (Y:=Wd×Wd) (fun _=>True) (fun w=> .tuple #[.agg #[w.1.b,w.1.l],.agg #[w.2.b,w.2.l],k]) (fun _=>[]) (fun w=>[zF w.1 z,zF w.2 d]):=
  h.told (fun y=>(⟨decide (z<0),y.1,(Big.digs z.natAbs).length,y.2.1⟩,⟨decide (d<0),y.2.2.1,(Big.digs d.natAbs).length,y.2.2.2⟩)) (fun _=>rfl) (fun _ _=>trivial) (fun _=>rfl)
    (fun y _ g r=>⟨⟨rfl,rfl,r.1⟩,⟨rfl,rfl,r.2.1⟩,trivial⟩)
theorem qF_rawI {s t:Bool} {p1 p2:Option Addr} {n1 c1 n2 c2:Nat} {l1 l2:List Int} (i j:Nat) (hi:R[i]? =some (slF (rI .u32) p1 c1 l1)) (hj:R[j]? =some (slF (rI .u32) p2 c2 l2)) (hn1:l1.length=n1) (hn2:l2.length=n2) (hm1:n1≤1048576) (hm2:n2≤1048576) (hq:Big.qok ((s,l1),(t,l2))):
    ∀g,Holds g R→(qF true ⟨s,p1,n1,c1⟩ ⟨t,p2,n2,c2⟩ (Big.qv ((s,l1),(t,l2)))).on g:=fun g r=>by
  subst hn1;subst hn2
  exact ⟨((s,l1),(t,l2)),⟨rfl,rfl,hm1,Holds.get i hi r⟩,⟨rfl,rfl,hm2,Holds.get j hj r⟩,rfl,fun _=>hq⟩
end
section
variable {P : Program} {c : Cx} {m : Fm} {O : List As} {R : List Fa}
theorem zjf {Y:Type} {n:Nat} {fn:Func} {φ:Y→Prop} {val:Y→Value} {O1:Y→List As} {R1:Y→List Fa} {r1 r2 r3 r4:ResultVar} {v1 v2 v3 v4:Value} (hr:fn.results= #[r1,r2,r3,r4]) (y:Y) (hy:φ y)
    (h1:ResAt P ⟨n,[]⟩ m O R r1 v1) (h2:ResAt P ⟨n,[]⟩ m O R r2 v2) (h3:ResAt P ⟨n,[]⟩ m O R r3 v3) (h4:ResAt P ⟨n,[]⟩ m O R r4 v4) (hv:val y= .tuple #[v1,v2,v3,v4]) {is js:List Nat} (ho:pickO is O=some (O1 y)) (hs:SelR js R (R1 y)):Post c ⟨n,[]⟩ (Ret P fn c φ val O1 R1) .ret m O R:=by
  intro a w f mm
  refine ⟨f.defers,.tuple #[v1,v2,v3,v4],?_,y,by rw [hv],hy,mm.sel ho hs⟩
  have e1:=h1 c a w f mm
  have e2:=h2 c a w f mm
  have e3:=h3 c a w f mm
  have e4:=h4 c a w f mm
  simp [results_eq,hr,e1,e2,e3,e4]
end
section
variable {P : Program} {n : Sz} {m : Fm} {d : Option Tmp} {ty : TypeId} {ps : String} {af : Array Edge} {gd : Option (Nat × Bool)}
theorem zsf {x y z:Operand} {ats:Array TypeId} {k:IntKind} {a b e:Int} (h1:evo m x=some (.int k a)) (h2:evo m y=some (.int k b)) (h3:evo m z=some (.int k e)):PV P n ⟨d,.call ⟨.builtin .min,#[x,y,z],ats⟩,ty,ps,af,gd⟩ m (.int k (min (min a b) e)):=fun ac w f=>by
  have t1:(if b<a then b else a)=min a b:=by by_cases h:b<a <;> simp [h,Int.min_def] <;> omega
  have t0:∀q:Int,(if e<q then e else q)=min q e:=fun q=>by by_cases h:e<q <;> simp [h,Int.min_def] <;> omega
  have t2:=t0 (min a b)
  simp [execOp,resolve,invoke,builtin,Builtin.min_,Builtin.min2,f.ev h1,f.ev h2,f.ev h3,t1,t2]
end
end Go.Proofs.Ytefbbhiaalcjfaa.Sp
namespace Go.Proofs.Ytefbbhiaalcjfaa.Bl
def ok (ar l t r b sx sy xx xy yy ms mx my:Int):Prop:=
  (1≤ar∧ar≤4096)∧(0≤l∧l≤r)∧r≤63∧(0≤t∧t≤b)∧b≤63∧(ar*l≤sx∧sx≤ar*r)∧(ar*t≤sy∧sy≤ar*b)∧
  (0≤xx∧xx≤ar*63*63)∧(0≤xy∧xy≤ar*63*63)∧(0≤yy∧yy≤ar*63*63)∧(0≤ms∧ms≤ar*65535)∧(ms*l≤mx∧mx≤ms*r)∧(ms*t≤my∧my≤ms*b)
instance (ar l t r b sx sy xx xy yy ms mx my:Int):Decidable (ok ar l t r b sx sy xx xy yy ms mx my):=inferInstanceAs (Decidable (_∧_))
theorem mul_b {x y m n:Int} (hx:0≤x∧x≤m) (hy:0≤y∧y≤n):0≤x*y∧x*y≤m*n:=
  ⟨Int.mul_nonneg hx.1 hy.1,Int.mul_le_mul hx.2 hy.2 hy.1 (Int.le_trans hx.1 hx.2)⟩
def bd (ar l t r b sx sy xx xy yy ms mx my:Int):Prop:=
  (0≤ar∧ar≤1000000000000)∧(0≤sx∧sx≤1000000000000)∧(0≤sy∧sy≤1000000000000)∧(0≤xx∧xx≤1000000000000)∧(0≤xy∧xy≤1000000000000)∧(0≤yy∧yy≤1000000000000)∧(0≤ms∧ms≤1000000000000)∧(0≤mx∧mx≤1000000000000)∧(0≤my∧my≤1000000000000)
theorem ok_bd {ar l t r b sx sy xx xy yy ms mx my:Int} (h:ok ar l t r b sx sy xx xy yy ms mx my):bd ar l t r b sx sy xx xy yy ms mx my:=by
  unfold ok at h
  have a1:=mul_b (x:=ar) (y:=l) (m:=4096) (n:=63) (by omega) (by omega)
  have a2:=mul_b (x:=ar) (y:=r) (m:=4096) (n:=63) (by omega) (by omega)
  have a3:=mul_b (x:=ar) (y:=t) (m:=4096) (n:=63) (by omega) (by omega)
  have a4:=mul_b (x:=ar) (y:=b) (m:=4096) (n:=63) (by omega) (by omega)
  have b1:=mul_b (x:=ms) (y:=l) (m:=268431360) (n:=63) (by omega) (by omega)
  have b2:=mul_b (x:=ms) (y:=r) (m:=268431360) (n:=63) (by omega) (by omega)
  have b3:=mul_b (x:=ms) (y:=t) (m:=268431360) (n:=63) (by omega) (by omega)
  have b4:=mul_b (x:=ms) (y:=b) (m:=268431360) (n:=63) (by omega) (by omega)
  unfold bd;omega
theorem c0 {p:Prop} [Decidable p]:(if p then (0:Int) else 1)=0↔p:=by split <;> simp_all
def rok (w h m:Int) (l:List Int):Prop:=(1≤w∧w≤64)∧(1≤h∧h≤64)∧(1≤m∧m≤65535)∧(l.length:Int)=w*h∧¬∃x∈l,x<0∨m<x
instance (w h m:Int) (l:List Int):Decidable (rok w h m l):=inferInstanceAs (Decidable (_∧_))
end Go.Proofs.Ytefbbhiaalcjfaa.Bl
namespace Go.Proofs.Ytefbbhiaalcjfaa.Sp
open Go
set_option linter.unusedVariables false
set_option maxRecDepth 100000
set_option maxHeartbeats 8000000
theorem zpd {w:Int} {h:Int} {m:Int} {p:Option Addr} {n:Nat} {cap:Nat} {bb:Nat} {u:Int}:Con Try.prog 74 [.int .i64 u,.pointer (some ⟨bb,0,none⟩)] [] [atF bb 0 [.int .i64 w,.int .i64 h,.int .i64 m,.slice p n cap]] (Y:=Unit) (fun y=>True) (fun y=> .bool (decide (u<0∨m<u))) (fun y=>[]) (fun y=>[]):=by
 refine zr Try.func74 rfl rfl rfl (fun c=> ?_)
 show RunC _ _ _ _ _ [(0,.int .i64 u),(1,.pointer (some ⟨bb,0,none⟩))] [] [atF bb 0 [.int .i64 w,.int .i64 h,.int .i64 m,.slice p n cap]]
 refine zi<|zc<|r_pv rfl rfl (zd rfl)<|zj<|ze<|zFa (X:=Unit) (fun x=>True) (fun x=>[(3,.bool (decide ((u<0)∨(m<u))))]) (fun x=>[]) (fun x=>[atF bb 0 [.int .i64 w,.int .i64 h,.int .i64 m,.slice p n cap]]) ?_ ?_
 ·
  refine zc<|r_pv rfl rfl (zb rfl)<|r_pv rfl rfl (zW rfl rfl)<|zP rfl rfl (zb rfl) (fun h1=> ?_) (fun h1=> ?_)
  ·
   refine za rfl rfl<|za rfl rfl<|za rfl rfl<|za rfl rfl<|r_pv rfl rfl (zk rfl rfl)<|r_pv rfl rfl (zd rfl)<|zj ?_
   exact zZ () (show True from by first|trivial|omega|simp_all) ((.e rfl (congrArg Value.bool (by first|(simp_all;done)|(simp_all;omega)|(simp;omega)|omega)) .n):SubM _ _) (ho:=(.n:PickO _ _ _)) ((.c (j:=0) rfl .n):SelR _ _ _)
  ·
   refine r_pv rfl rfl (zb rfl)<|r_pv rfl rfl (zg Try.underlying24 rfl sz3 rfl rfl)<|r_u rfl rfl (zl (j:=2) 0 ty3 rfl rfl rfl rfl)<|r_pv rfl rfl (zwa rfl rfl)<|r_pv rfl rfl (zk rfl rfl)<|r_pv rfl rfl (zd rfl)<|zj ?_
   exact zZ () (show True from by first|trivial|omega|simp_all) ((.e rfl (congrArg Value.bool (by first|(simp_all;done)|(simp_all;omega)|(simp;omega)|omega)) .n):SubM _ _) (ho:=(.n:PickO _ _ _)) ((.c (j:=0) rfl .n):SelR _ _ _)
 ·
  rintro ⟨⟩ -
  try dsimp only
  refine zI ?_
  exact zC Try.results74 () trivial (zq rfl) rfl (ho:=(.n:PickO _ _ _)) (.n:SelR _ _ _)
theorem zmc {w:Int} {h:Int} {m:Int} {p:Option Addr} {n:Nat} {cap:Nat} {l:List Int} {bb:Nat} (hn:l.length=n):Con Try.prog 86 [.slice p n cap,.func (.func 74) #[] #[.pointer (some ⟨bb,0,none⟩)]] [] [slF (rI .i64) p cap l,atF bb 0 [.int .i64 w,.int .i64 h,.int .i64 m,.slice p n cap]] (Y:=Int) (fun y=>(0≤y↔∃g∈l,g<0∨m<g)) (fun y=> .int .i64 y) (fun y=>[]) (fun y=>[]):=by
 refine zr Try.func86 rfl rfl rfl (fun c=> ?_)
 show RunC _ _ _ _ _ [(0,.slice p n cap),(1,.func (.func 74) #[] #[.pointer (some ⟨bb,0,none⟩)])] [] [slF (rI .i64) p cap l,atF bb 0 [.int .i64 w,.int .i64 h,.int .i64 m,.slice p n cap]]
 refine zca 0 rfl (fun hL0=> ?_)
 refine zi<|zc<|r_pv rfl rfl (zd rfl)<|zj<|ze<|zi<|zi<|zc<|r_pv rfl rfl (zb rfl)<|r_pv rfl rfl (zM Try.underlying22 rfl)<|r_pv rfl rfl (zb rfl)<|zj<|ze<|zz<|zma (X:=Nat) (fun x:Nat=>x≤n∧∀j,j<x→¬(l.getD j 0<0∨m<l.getD j 0)) (fun x=>[(8,.int .i64 ((x:Nat):Int)),(7,.int .i64 ((n:Nat):Int)),(0,.slice p n cap),(1,.func (.func 74) #[] #[.pointer (some ⟨bb,0,none⟩)])]) (fun x=>[]) (fun x=>[slF (rI .i64) p cap l,atF bb 0 [.int .i64 w,.int .i64 h,.int .i64 m,.slice p n cap]]) (fun x:Nat=>n - x) 0 (show 0≤n∧∀j,j<0→¬(l.getD j 0<0∨m<l.getD j 0) from by exact ⟨by omega,fun j h=>by omega⟩) ((.e rfl (by first|rfl|(congr 1;omega)|simp_all) (.of rfl)):SubM _ _) (ho:=(.n:PickO _ _ _)) ((.of [0,1] rfl):SelR _ _ _) ?_
 rintro i hI
 replace hI:i≤n∧∀j,j<i→¬(l.getD j 0<0∨m<l.getD j 0):=hI
 try dsimp only
 obtain ⟨hi,hall⟩:=hI
 refine zi<|zc<|r_pv rfl rfl (zW rfl rfl)<|zj<|ze<|zi<|zD rfl (fun h1=> ?_) (fun h1=> ?_)
 ·
  refine zA<|ze<|zi<|zz<|zi<|zc<|r_pv rfl rfl (zb rfl)<|r_pv rfl rfl (zd rfl)<|zj<|ze<|zi<|zc<|r_pv rfl rfl (zb rfl)<|r_pv rfl rfl (zb rfl)<|r_pv rfl rfl (zb rfl)<|zQ (x0:=(l.getD i 0)) 0 i rfl Try.underlying22 sz3 rfl rfl rfl (by first|rfl|assumption|(simp_all;done)|omega) rfl rfl (gD (d:=0) (by omega)) (fun b2 o3 hok4=> ?_)
  replace hok4:=zn.1 hok4
  refine r_u rfl rfl (zl (j:=0) 0 ty3 rfl rfl rfl rfl)<|zeb (first:=[]) (cap:=[.pointer (some ⟨bb,0,none⟩)]) rfl rfl rfl (.c rfl .n) ce74 (zpd (w:=w) (h:=h) (m:=m) (p:=p) (n:=n) (cap:=cap) (bb:=bb) (u:=(l.getD i 0))) (.c (j:=2) rfl .n) ?_
  rintro ⟨⟩ -
  dsimp only [List.append_eq,List.nil_append,List.cons_append]
  refine zj<|ze<|zD rfl (fun hb=> ?_) (fun hb=> ?_)
  ·
   refine zi<|zc<|r_pv rfl rfl (zb rfl)<|r_pv rfl rfl (zd rfl)<|zj<|ze<|zI<|zaa<|zt<|zt<|zaa<|zt ?_
   exact zC Try.results86 ((i:Nat):Int) (⟨fun _=>⟨l.getD i 0,Big.getD_mem (by omega),hb⟩,fun _=>by omega⟩) (zq rfl) rfl (ho:=(.n:PickO _ _ _)) (.n:SelR _ _ _)
  ·
   refine zA<|zJ<|ze<|zc<|r_pv rfl rfl (zy (z:=(((i+1):Nat):Int)) rfl rfl (w64 (by omega)))<|r_pv rfl rfl (zb rfl)<|zj<|zba (i+1) (show (i+1)≤n∧∀j,j<(i+1)→¬(l.getD j 0<0∨m<l.getD j 0) from by refine ⟨by omega,fun j hj=> ?_⟩;by_cases e:j=i;subst e;exact hb;exact hall j (by omega)) (by show n - (i+1)<n - i;omega) ((.of rfl):SubM _ _) (ho:=(.n:PickO _ _ _)) ((.of [1,2] rfl):SelR _ _ _)
 ·
  refine zfa<|zm<|zm<|zv<|ze<|zi<|zc<|r_pv rfl rfl (zd rfl)<|zj<|ze<|zI ?_
  exact zC Try.results86 (-1) (⟨fun h=>by omega,fun ⟨g,hg,hb⟩=>by obtain ⟨j,hj,e⟩:=Big.mem_getD hg;have:=hall j (by omega);rw [e] at this;exact absurd hb this⟩) (zq rfl) rfl (ho:=(.n:PickO _ _ _)) (.n:SelR _ _ _)
theorem zJb {w:Int} {h:Int} {m:Int} {p:Option Addr} {n:Nat} {cap:Nat} {l:List Int} {bb:Nat} (hn:l.length=n):Con Try.prog 73 [.slice p n cap,.func (.func 74) #[] #[.pointer (some ⟨bb,0,none⟩)]] [] [slF (rI .i64) p cap l,atF bb 0 [.int .i64 w,.int .i64 h,.int .i64 m,.slice p n cap]] (Y:=Unit) (fun y=>True) (fun y=> .bool (decide (∃g∈l,g<0∨m<g))) (fun y=>[]) (fun y=>[]):=by
 refine zr Try.func73 rfl rfl rfl (fun c=> ?_)
 show RunC _ _ _ _ _ [(0,.slice p n cap),(1,.func (.func 74) #[] #[.pointer (some ⟨bb,0,none⟩)])] [] [slF (rI .i64) p cap l,atF bb 0 [.int .i64 w,.int .i64 h,.int .i64 m,.slice p n cap]]
 refine zca 0 rfl (fun hL0=> ?_)
 refine zi<|zc<|r_pv rfl rfl (zd rfl)<|zj<|ze<|zi<|zc<|r_pv rfl rfl (zb rfl)<|r_pv rfl rfl (zb rfl)<|zB rfl rfl (.c rfl (.c rfl .n)) ce86 (zmc (w:=w) (h:=h) (m:=m) (p:=p) (n:=n) (cap:=cap) (l:=l) (bb:=bb) (hn:=by assumption)) (.c (j:=0) rfl (.c (j:=1) rfl .n)) ?_
 rintro r1 hr
 dsimp only [List.append_eq,List.nil_append,List.cons_append]
 replace hr:(0≤r1↔∃g∈l,g<0∨m<g):=hr
 refine r_pv rfl rfl (zya rfl rfl)<|r_pv rfl rfl (zd rfl)<|zj<|ze<|zI ?_
 exact zC Try.results73 () trivial (zq rfl) (congrArg Value.bool (decide_eq_decide.2 hr.symm)) (ho:=(.n:PickO _ _ _)) (.n:SelR _ _ _)
theorem zRd {w:Int} {h:Int} {m:Int} {p:Option Addr} {n:Nat} {cap:Nat} {l:List Int} (hn:l.length=n):Con Try.prog 56 [.agg #[.int .i64 w,.int .i64 h,.int .i64 m,.slice p n cap]] [] [slF (rI .i64) p cap l] (Y:=Unit) (fun y=>True) (fun y=> .int .i64 (if Bl.rok w h m l then 0 else 1)) (fun y=>[]) (fun y=>[]):=by
 refine zr Try.func56 rfl rfl rfl (fun c=> ?_)
 show RunC _ _ _ _ _ [(0,.agg #[.int .i64 w,.int .i64 h,.int .i64 m,.slice p n cap])] [] [slF (rI .i64) p cap l]
 refine zca 0 rfl (fun hL0=> ?_)
 refine zi<|zc<|zS rfl rfl (zX rfl rfl) (fun b1=> ?_)
 refine r_pv rfl rfl (zd rfl)<|zj<|ze<|zi<|zFa (X:=Unit) (fun x=>True) (fun x=>[(34,.bool (decide (¬((1≤w∧w≤64)∧(1≤h∧h≤64)∧(1≤m∧m≤65535)∧(n:Int)=w*h)))),(2,.int .i64 0),(1,.pointer (some ⟨b1,0,none⟩))]) (fun x=>[boxA b1 24 [.int .i64 w,.int .i64 h,.int .i64 m,.slice p n cap]]) (fun x=>[slF (rI .i64) p cap l]) ?_ ?_
 ·
  refine zc<|r_pv rfl rfl (zg Try.underlying24 rfl sz3 rfl rfl)<|r_u rfl rfl (zf 0 ty3 rfl rfl rfl)<|r_pv rfl rfl (zg Try.underlying24 rfl sz3 rfl rfl)<|r_u rfl rfl (zf 0 ty3 rfl rfl rfl)<|r_pv rfl rfl (zg Try.underlying24 rfl sz3 rfl rfl)<|r_u rfl rfl (zf 0 ty3 rfl rfl rfl)<|r_pv rfl rfl (zsf rfl rfl rfl)<|r_pv rfl rfl (zW rfl rfl)<|zP rfl rfl (zb rfl) (fun h2=> ?_) (fun h2=> ?_)
  ·
   refine za rfl rfl<|za rfl rfl<|za rfl rfl<|za rfl rfl<|za rfl rfl<|za rfl rfl<|r_pv rfl rfl (zk rfl rfl)<|r_pv rfl rfl (zb rfl)<|za rfl rfl<|za rfl rfl<|za rfl rfl<|r_pv rfl rfl (zk rfl rfl)<|r_pv rfl rfl (zb rfl)<|za rfl rfl<|za rfl rfl<|za rfl rfl<|za rfl rfl<|za rfl rfl<|za rfl rfl<|za rfl rfl<|za rfl rfl<|za rfl rfl<|r_pv rfl rfl (zk rfl rfl)<|zj ?_
   exact zZ () (show True from by first|trivial|omega|simp_all) ((.e rfl (congrArg Value.bool (by exact Eq.symm (decide_eq_true (by omega)))) (.c rfl (.c rfl .n))):SubM _ _) (ho:=((.c (i:=0) rfl .n):PickO _ _ _)) ((.c (j:=0) rfl .n):SelR _ _ _)
  ·
   refine r_pv rfl rfl (zg Try.underlying24 rfl sz3 rfl rfl)<|r_u rfl rfl (zf 0 ty3 rfl rfl rfl)<|r_pv rfl rfl (zg Try.underlying24 rfl sz3 rfl rfl)<|r_u rfl rfl (zf 0 ty3 rfl rfl rfl)<|r_pv rfl rfl (zzd rfl rfl)<|r_pv rfl rfl (zwa rfl rfl)<|r_pv rfl rfl (zk rfl rfl)<|zP rfl rfl (zb rfl) (fun h3=> ?_) (fun h3=> ?_)
   ·
    refine za rfl rfl<|za rfl rfl<|za rfl rfl<|r_pv rfl rfl (zk rfl rfl)<|r_pv rfl rfl (zb rfl)<|za rfl rfl<|za rfl rfl<|za rfl rfl<|za rfl rfl<|za rfl rfl<|za rfl rfl<|za rfl rfl<|za rfl rfl<|za rfl rfl<|r_pv rfl rfl (zk rfl rfl)<|zj ?_
    exact zZ () (show True from by first|trivial|omega|simp_all) ((.e rfl (congrArg Value.bool (by exact Eq.symm (decide_eq_true (by omega)))) (.c rfl (.c rfl .n))):SubM _ _) (ho:=((.c (i:=0) rfl .n):PickO _ _ _)) ((.c (j:=0) rfl .n):SelR _ _ _)
   ·
    refine r_pv rfl rfl (zg Try.underlying24 rfl sz3 rfl rfl)<|r_u rfl rfl (zf 0 ty3 rfl rfl rfl)<|r_pv rfl rfl (zwa rfl rfl)<|r_pv rfl rfl (zk rfl rfl)<|zP rfl rfl (zb rfl) (fun h4=> ?_) (fun h4=> ?_)
    ·
     refine za rfl rfl<|za rfl rfl<|za rfl rfl<|za rfl rfl<|za rfl rfl<|za rfl rfl<|za rfl rfl<|za rfl rfl<|za rfl rfl<|r_pv rfl rfl (zk rfl rfl)<|zj ?_
     exact zZ () (show True from by first|trivial|omega|simp_all) ((.e rfl (congrArg Value.bool (by exact Eq.symm (decide_eq_true (by omega)))) (.c rfl (.c rfl .n))):SubM _ _) (ho:=((.c (i:=0) rfl .n):PickO _ _ _)) ((.c (j:=0) rfl .n):SelR _ _ _)
    ·
     refine r_pv rfl rfl (zg Try.underlying24 rfl sz22 rfl rfl)<|r_u rfl rfl (zf 0 ty22 rfl rfl rfl)<|r_pv rfl rfl (zM Try.underlying22 rfl)<|r_pv rfl rfl (zg Try.underlying24 rfl sz3 rfl rfl)<|r_u rfl rfl (zf 0 ty3 rfl rfl rfl)<|r_pv rfl rfl (zg Try.underlying24 rfl sz3 rfl rfl)<|r_u rfl rfl (zf 0 ty3 rfl rfl rfl)<|r_pv rfl rfl (zla (z:=(w*h)) rfl rfl (w64 (by first|omega|(have:=Bl.mul_b (x:=w) (y:=h) (m:=64) (n:=64) (by omega) (by omega);omega))))<|r_pv rfl rfl (zIa rfl rfl)<|r_pv rfl rfl (zk rfl rfl)<|zj ?_
     exact zZ () (show True from by first|trivial|omega|simp_all) ((.e rfl (congrArg Value.bool (by exact decide_eq_decide.2 (by constructor <;> intro k <;> omega))) (.c rfl (.c rfl .n))):SubM _ _) (ho:=((.c (i:=0) rfl .n):PickO _ _ _)) ((.c (j:=0) rfl .n):SelR _ _ _)
 ·
  rintro ⟨⟩ -
  try dsimp only
  refine zD rfl (fun h5=> ?_) (fun h5=> ?_)
  ·
   refine zi<|zc<|r_pv rfl rfl (zd rfl)<|zj<|ze<|zI<|zt ?_
   exact zC Try.results56 () trivial (zq rfl) (by rw [if_neg (fun k=>by unfold Bl.rok at k;omega)]) (ho:=(.n:PickO _ _ _)) (.n:SelR _ _ _)
  ·
   refine zA<|ze<|zi<|zi<|zfb 0 rfl .z<|zc<|r_pv rfl rfl (zg Try.underlying24 rfl sz22 rfl rfl)<|r_u rfl rfl (zl (j:=3) 0 ty22 rfl rfl rfl rfl)<|r_pv rfl rfl (zQa .n (.c rfl .n))<|zO rfl rfl (.c rfl (.c rfl .n)) ce73 (zJb (w:=w) (h:=h) (m:=m) (p:=p) (n:=n) (cap:=cap) (l:=l) (bb:=b1) (hn:=by assumption)) (.c (j:=1) rfl (.c (j:=0) rfl .n))<|zj<|ze<|zD rfl (fun hx=> ?_) (fun hx=> ?_)
   ·
    refine zi<|zc<|r_pv rfl rfl (zd rfl)<|zj<|ze<|zI<|zt ?_
    exact zC Try.results56 () trivial (zq rfl) (by rw [if_neg (fun k=>k.2.2.2.2 hx)]) (ho:=(.n:PickO _ _ _)) (.n:SelR _ _ _)
   ·
    refine zA<|ze<|zi<|zc<|r_pv rfl rfl (zd rfl)<|zj<|ze<|zI ?_
    exact zC Try.results56 () trivial (zq rfl) (by rw [if_pos (show Bl.rok w h m l from ⟨by omega,by omega,by omega,by omega,hx⟩)]) (ho:=(.n:PickO _ _ _)) (.n:SelR _ _ _)
end Go.Proofs.Ytefbbhiaalcjfaa.Sp
namespace Go.Proofs.Ytefbbhiaalcjfaa.Sp
open Go
set_option linter.unusedVariables false
set_option maxRecDepth 100000
set_option maxHeartbeats 8000000
theorem zqd {w:Int} {h:Int} {m:Int} {p:Option Addr} {n:Nat} {cap:Nat} {l:List Int} (hn:l.length=n):Con Try.prog 39 [.agg #[.int .i64 w,.int .i64 h,.int .i64 m,.slice p n cap]] [] [slF (rI .i64) p cap l] (Y:=Unit) (fun y=>True) (fun y=> .int .i64 (if Bl.rok w h m l then 0 else 1)) (fun y=>[]) (fun y=>[]):=by
 refine zr Try.func39 rfl rfl rfl (fun c=> ?_)
 show RunC _ _ _ _ _ [(0,.agg #[.int .i64 w,.int .i64 h,.int .i64 m,.slice p n cap])] [] [slF (rI .i64) p cap l]
 refine zca 0 rfl (fun hL0=> ?_)
 refine zi<|zc<|zS rfl rfl (zX rfl rfl) (fun b1=> ?_)
 refine r_pv rfl rfl (zd rfl)<|zj<|ze<|zi<|zFa (X:=Unit) (fun x=>True) (fun x=>[(42,.bool (decide (¬((1≤w∧w≤64)∧(1≤h∧h≤64)∧(1≤m∧m≤65535)∧(n:Int)=w*h)))),(2,.int .i64 0),(1,.pointer (some ⟨b1,0,none⟩))]) (fun x=>[boxA b1 24 [.int .i64 w,.int .i64 h,.int .i64 m,.slice p n cap]]) (fun x=>[slF (rI .i64) p cap l]) ?_ ?_
 ·
  refine zc<|r_pv rfl rfl (zg Try.underlying24 rfl sz3 rfl rfl)<|r_u rfl rfl (zf 0 ty3 rfl rfl rfl)<|r_pv rfl rfl (zW rfl rfl)<|zP rfl rfl (zb rfl) (fun h2=> ?_) (fun h2=> ?_)
  ·
   refine za rfl rfl<|za rfl rfl<|za rfl rfl<|r_pv rfl rfl (zk rfl rfl)<|r_pv rfl rfl (zb rfl)<|za rfl rfl<|za rfl rfl<|za rfl rfl<|r_pv rfl rfl (zk rfl rfl)<|r_pv rfl rfl (zb rfl)<|za rfl rfl<|za rfl rfl<|za rfl rfl<|r_pv rfl rfl (zk rfl rfl)<|r_pv rfl rfl (zb rfl)<|za rfl rfl<|za rfl rfl<|za rfl rfl<|r_pv rfl rfl (zk rfl rfl)<|r_pv rfl rfl (zb rfl)<|za rfl rfl<|za rfl rfl<|za rfl rfl<|r_pv rfl rfl (zk rfl rfl)<|r_pv rfl rfl (zb rfl)<|za rfl rfl<|za rfl rfl<|za rfl rfl<|za rfl rfl<|za rfl rfl<|za rfl rfl<|za rfl rfl<|za rfl rfl<|za rfl rfl<|r_pv rfl rfl (zk rfl rfl)<|zj ?_
   exact zZ () (show True from by first|trivial|omega|simp_all) ((.e rfl (congrArg Value.bool (by exact Eq.symm (decide_eq_true (by omega)))) (.c rfl (.c rfl .n))):SubM _ _) (ho:=((.c (i:=0) rfl .n):PickO _ _ _)) ((.c (j:=0) rfl .n):SelR _ _ _)
  ·
   refine r_pv rfl rfl (zg Try.underlying24 rfl sz3 rfl rfl)<|r_u rfl rfl (zf 0 ty3 rfl rfl rfl)<|r_pv rfl rfl (zwa rfl rfl)<|r_pv rfl rfl (zk rfl rfl)<|zP rfl rfl (zb rfl) (fun h3=> ?_) (fun h3=> ?_)
   ·
    refine za rfl rfl<|za rfl rfl<|za rfl rfl<|r_pv rfl rfl (zk rfl rfl)<|r_pv rfl rfl (zb rfl)<|za rfl rfl<|za rfl rfl<|za rfl rfl<|r_pv rfl rfl (zk rfl rfl)<|r_pv rfl rfl (zb rfl)<|za rfl rfl<|za rfl rfl<|za rfl rfl<|r_pv rfl rfl (zk rfl rfl)<|r_pv rfl rfl (zb rfl)<|za rfl rfl<|za rfl rfl<|za rfl rfl<|r_pv rfl rfl (zk rfl rfl)<|r_pv rfl rfl (zb rfl)<|za rfl rfl<|za rfl rfl<|za rfl rfl<|za rfl rfl<|za rfl rfl<|za rfl rfl<|za rfl rfl<|za rfl rfl<|za rfl rfl<|r_pv rfl rfl (zk rfl rfl)<|zj ?_
    exact zZ () (show True from by first|trivial|omega|simp_all) ((.e rfl (congrArg Value.bool (by exact Eq.symm (decide_eq_true (by omega)))) (.c rfl (.c rfl .n))):SubM _ _) (ho:=((.c (i:=0) rfl .n):PickO _ _ _)) ((.c (j:=0) rfl .n):SelR _ _ _)
   ·
    refine r_pv rfl rfl (zg Try.underlying24 rfl sz3 rfl rfl)<|r_u rfl rfl (zf 0 ty3 rfl rfl rfl)<|r_pv rfl rfl (zW rfl rfl)<|r_pv rfl rfl (zk rfl rfl)<|zP rfl rfl (zb rfl) (fun h4=> ?_) (fun h4=> ?_)
    ·
     refine za rfl rfl<|za rfl rfl<|za rfl rfl<|r_pv rfl rfl (zk rfl rfl)<|r_pv rfl rfl (zb rfl)<|za rfl rfl<|za rfl rfl<|za rfl rfl<|r_pv rfl rfl (zk rfl rfl)<|r_pv rfl rfl (zb rfl)<|za rfl rfl<|za rfl rfl<|za rfl rfl<|r_pv rfl rfl (zk rfl rfl)<|r_pv rfl rfl (zb rfl)<|za rfl rfl<|za rfl rfl<|za rfl rfl<|za rfl rfl<|za rfl rfl<|za rfl rfl<|za rfl rfl<|za rfl rfl<|za rfl rfl<|r_pv rfl rfl (zk rfl rfl)<|zj ?_
     exact zZ () (show True from by first|trivial|omega|simp_all) ((.e rfl (congrArg Value.bool (by exact Eq.symm (decide_eq_true (by omega)))) (.c rfl (.c rfl .n))):SubM _ _) (ho:=((.c (i:=0) rfl .n):PickO _ _ _)) ((.c (j:=0) rfl .n):SelR _ _ _)
    ·
     refine r_pv rfl rfl (zg Try.underlying24 rfl sz3 rfl rfl)<|r_u rfl rfl (zf 0 ty3 rfl rfl rfl)<|r_pv rfl rfl (zwa rfl rfl)<|r_pv rfl rfl (zk rfl rfl)<|zP rfl rfl (zb rfl) (fun h5=> ?_) (fun h5=> ?_)
     ·
      refine za rfl rfl<|za rfl rfl<|za rfl rfl<|r_pv rfl rfl (zk rfl rfl)<|r_pv rfl rfl (zb rfl)<|za rfl rfl<|za rfl rfl<|za rfl rfl<|r_pv rfl rfl (zk rfl rfl)<|r_pv rfl rfl (zb rfl)<|za rfl rfl<|za rfl rfl<|za rfl rfl<|za rfl rfl<|za rfl rfl<|za rfl rfl<|za rfl rfl<|za rfl rfl<|za rfl rfl<|r_pv rfl rfl (zk rfl rfl)<|zj ?_
      exact zZ () (show True from by first|trivial|omega|simp_all) ((.e rfl (congrArg Value.bool (by exact Eq.symm (decide_eq_true (by omega)))) (.c rfl (.c rfl .n))):SubM _ _) (ho:=((.c (i:=0) rfl .n):PickO _ _ _)) ((.c (j:=0) rfl .n):SelR _ _ _)
     ·
      refine r_pv rfl rfl (zg Try.underlying24 rfl sz3 rfl rfl)<|r_u rfl rfl (zf 0 ty3 rfl rfl rfl)<|r_pv rfl rfl (zW rfl rfl)<|r_pv rfl rfl (zk rfl rfl)<|zP rfl rfl (zb rfl) (fun h6=> ?_) (fun h6=> ?_)
      ·
       refine za rfl rfl<|za rfl rfl<|za rfl rfl<|r_pv rfl rfl (zk rfl rfl)<|r_pv rfl rfl (zb rfl)<|za rfl rfl<|za rfl rfl<|za rfl rfl<|za rfl rfl<|za rfl rfl<|za rfl rfl<|za rfl rfl<|za rfl rfl<|za rfl rfl<|r_pv rfl rfl (zk rfl rfl)<|zj ?_
       exact zZ () (show True from by first|trivial|omega|simp_all) ((.e rfl (congrArg Value.bool (by exact Eq.symm (decide_eq_true (by omega)))) (.c rfl (.c rfl .n))):SubM _ _) (ho:=((.c (i:=0) rfl .n):PickO _ _ _)) ((.c (j:=0) rfl .n):SelR _ _ _)
      ·
       refine r_pv rfl rfl (zg Try.underlying24 rfl sz3 rfl rfl)<|r_u rfl rfl (zf 0 ty3 rfl rfl rfl)<|r_pv rfl rfl (zwa rfl rfl)<|r_pv rfl rfl (zk rfl rfl)<|zP rfl rfl (zb rfl) (fun h7=> ?_) (fun h7=> ?_)
       ·
        refine za rfl rfl<|za rfl rfl<|za rfl rfl<|za rfl rfl<|za rfl rfl<|za rfl rfl<|za rfl rfl<|za rfl rfl<|za rfl rfl<|r_pv rfl rfl (zk rfl rfl)<|zj ?_
        exact zZ () (show True from by first|trivial|omega|simp_all) ((.e rfl (congrArg Value.bool (by exact Eq.symm (decide_eq_true (by omega)))) (.c rfl (.c rfl .n))):SubM _ _) (ho:=((.c (i:=0) rfl .n):PickO _ _ _)) ((.c (j:=0) rfl .n):SelR _ _ _)
       ·
        refine r_pv rfl rfl (zg Try.underlying24 rfl sz22 rfl rfl)<|r_u rfl rfl (zf 0 ty22 rfl rfl rfl)<|r_pv rfl rfl (zM Try.underlying22 rfl)<|r_pv rfl rfl (zg Try.underlying24 rfl sz3 rfl rfl)<|r_u rfl rfl (zf 0 ty3 rfl rfl rfl)<|r_pv rfl rfl (zg Try.underlying24 rfl sz3 rfl rfl)<|r_u rfl rfl (zf 0 ty3 rfl rfl rfl)<|r_pv rfl rfl (zla (z:=(w*h)) rfl rfl (w64 (by first|omega|(have:=Bl.mul_b (x:=w) (y:=h) (m:=64) (n:=64) (by omega) (by omega);omega))))<|r_pv rfl rfl (zIa rfl rfl)<|r_pv rfl rfl (zk rfl rfl)<|zj ?_
        exact zZ () (show True from by first|trivial|omega|simp_all) ((.e rfl (congrArg Value.bool (by exact decide_eq_decide.2 (by constructor <;> intro k <;> omega))) (.c rfl (.c rfl .n))):SubM _ _) (ho:=((.c (i:=0) rfl .n):PickO _ _ _)) ((.c (j:=0) rfl .n):SelR _ _ _)
 ·
  rintro ⟨⟩ -
  try dsimp only
  refine zD rfl (fun hc=> ?_) (fun hc=> ?_)
  ·
   refine zi<|zc<|r_pv rfl rfl (zd rfl)<|zj<|ze<|zI<|zt ?_
   exact zC Try.results39 () trivial (zq rfl) (by rw [if_neg (fun k=>by unfold Bl.rok at k;omega)]) (ho:=(.n:PickO _ _ _)) (.n:SelR _ _ _)
  ·
   refine zA<|ze<|zi<|zi<|zc<|r_pv rfl rfl (zd rfl)<|zj<|ze<|zz<|zma (X:=Nat) (fun x:Nat=>x≤n∧∀j,j<x→¬(l.getD j 0<0∨m<l.getD j 0)) (fun x=>[(3,.int .i64 ((x:Nat):Int)),(1,.pointer (some ⟨b1,0,none⟩))]) (fun x=>[boxA b1 24 [.int .i64 w,.int .i64 h,.int .i64 m,.slice p n cap]]) (fun x=>[slF (rI .i64) p cap l]) (fun x:Nat=>n - x) 0 (show 0≤n∧∀j,j<0→¬(l.getD j 0<0∨m<l.getD j 0) from by exact ⟨by omega,fun j h=>by omega⟩) ((.e rfl (by first|rfl|(congr 1;omega)|simp_all) (.c rfl .n)):SubM _ _) (ho:=((.c (i:=0) rfl .n):PickO _ _ _)) ((.c (j:=0) rfl .n):SelR _ _ _) ?_
   rintro i hI
   replace hI:i≤n∧∀j,j<i→¬(l.getD j 0<0∨m<l.getD j 0):=hI
   try dsimp only
   obtain ⟨hi,hall⟩:=hI
   refine zi<|zi<|zc<|r_pv rfl rfl (zb rfl)<|r_pv rfl rfl (zg Try.underlying24 rfl sz22 rfl rfl)<|r_u rfl rfl (zf 0 ty22 rfl rfl rfl)<|r_pv rfl rfl (zM Try.underlying22 rfl)<|r_pv rfl rfl (zW rfl rfl)<|zj<|ze<|zD rfl (fun h8=> ?_) (fun h8=> ?_)
   ·
    refine zA<|ze<|zi<|zz<|zFa (X:=Unit) (fun x=>True) (fun x=>[(65,.bool (decide (l.getD i 0<0∨m<l.getD i 0))),(3,.int .i64 ((i:Nat):Int)),(1,.pointer (some ⟨b1,0,none⟩))]) (fun x=>[boxA b1 24 [.int .i64 w,.int .i64 h,.int .i64 m,.slice p n cap]]) (fun x=>[slF (rI .i64) p cap l]) ?_ ?_
    ·
     refine zja (OW:=[]) (O:=[boxA b1 24 [.int .i64 w,.int .i64 h,.int .i64 m,.slice p n cap]]) 100000 mixed (.then (.block (.then (.then (.block (.then .ret)))))) (by kernel_rfl)<|d_pv 0 rfl rfl (by kernel_rfl) (by kernel_rfl) rfl rfl (zg Try.underlying24 rfl sz22 rfl rfl)<|d_u 1 rfl rfl (by kernel_rfl) (by kernel_rfl) rfl rfl (zf 0 ty22 rfl rfl rfl)<|d_pv 2 rfl rfl (by kernel_rfl) (by kernel_rfl) rfl rfl (zb rfl)<|zoa (x0:=(l.getD i 0)) 3 rfl rfl (by kernel_rfl) (by kernel_rfl) 0 i rfl Try.underlying22 sz3 rfl rfl rfl (by first|rfl|assumption|(simp_all;done)|omega) rfl rfl (gD (d:=0) (by first|omega|(have:=Bl.mul_b (x:=w) (y:=h) (m:=64) (n:=64) (by omega) (by omega);omega))) (fun b9 o10 hok11=> ?_)
     replace hok11:=zn.1 hok11
     refine d_u 4 rfl rfl (by kernel_rfl) (by kernel_rfl) rfl rfl (zl (j:=0) 0 ty3 rfl rfl rfl rfl)<|d_pv 5 rfl rfl (by kernel_rfl) (by kernel_rfl) rfl rfl (zW rfl rfl)<|zvb 6 rfl rfl (by kernel_rfl) (by kernel_rfl) rfl rfl (zb rfl) (fun h12=> ?_) (fun h12=> ?_)
     ·
      refine zha 7 rfl rfl (by kernel_rfl) (by kernel_rfl) rfl rfl<|zha 8 rfl rfl (by kernel_rfl) (by kernel_rfl) rfl rfl<|zha 9 rfl rfl (by kernel_rfl) (by kernel_rfl) rfl rfl<|zha 10 rfl rfl (by kernel_rfl) (by kernel_rfl) rfl rfl<|zha 11 rfl rfl (by kernel_rfl) (by kernel_rfl) rfl rfl<|zha 12 rfl rfl (by kernel_rfl) (by kernel_rfl) rfl rfl<|zha 13 rfl rfl (by kernel_rfl) (by kernel_rfl) rfl rfl<|zha 14 rfl rfl (by kernel_rfl) (by kernel_rfl) rfl rfl<|d_pv 15 rfl rfl (by kernel_rfl) (by kernel_rfl) rfl rfl (zk rfl rfl)<|zga (by kernel_rfl) ?_
      exact zZ () (show True from by first|trivial|omega|simp_all) ((.e rfl (congrArg Value.bool (by exact Eq.symm (decide_eq_true (by omega)))) (.c rfl (.c rfl .n))):SubM _ _) (ho:=((.c (i:=0) rfl .n):PickO _ _ _)) ((.c (j:=1) rfl .n):SelR _ _ _)
     ·
      refine d_pv 7 rfl rfl (by kernel_rfl) (by kernel_rfl) rfl rfl (zg Try.underlying24 rfl sz22 rfl rfl)<|d_u 8 rfl rfl (by kernel_rfl) (by kernel_rfl) rfl rfl (zf 0 ty22 rfl rfl rfl)<|d_pv 9 rfl rfl (by kernel_rfl) (by kernel_rfl) rfl rfl (zb rfl)<|zoa (x0:=(l.getD i 0)) 10 rfl rfl (by kernel_rfl) (by kernel_rfl) 1 i rfl Try.underlying22 sz3 rfl rfl rfl (by first|rfl|assumption|(simp_all;done)|omega) rfl rfl (gD (d:=0) (by first|omega|(have:=Bl.mul_b (x:=w) (y:=h) (m:=64) (n:=64) (by omega) (by omega);omega))) (fun b13 o14 hok15=> ?_)
      replace hok15:=zn.1 hok15
      refine d_u 11 rfl rfl (by kernel_rfl) (by kernel_rfl) rfl rfl (zl (j:=0) 0 ty3 rfl rfl rfl rfl)<|d_pv 12 rfl rfl (by kernel_rfl) (by kernel_rfl) rfl rfl (zg Try.underlying24 rfl sz3 rfl rfl)<|d_u 13 rfl rfl (by kernel_rfl) (by kernel_rfl) rfl rfl (zf 0 ty3 rfl rfl rfl)<|d_pv 14 rfl rfl (by kernel_rfl) (by kernel_rfl) rfl rfl (zwa rfl rfl)<|d_pv 15 rfl rfl (by kernel_rfl) (by kernel_rfl) rfl rfl (zk rfl rfl)<|zga (by kernel_rfl) ?_
      exact zZ () (show True from by first|trivial|omega|simp_all) ((.e rfl (congrArg Value.bool (by exact decide_eq_decide.2 (by constructor <;> intro k <;> omega))) (.c rfl (.c rfl .n))):SubM _ _) (ho:=((.c (i:=0) rfl .n):PickO _ _ _)) ((.c (j:=2) rfl .n):SelR _ _ _)
    ·
     rintro ⟨⟩ -
     try dsimp only
     refine zD rfl (fun hx=> ?_) (fun hx=> ?_)
     ·
      refine zi<|zc<|r_pv rfl rfl (zd rfl)<|zj<|ze<|zI<|zaa<|zt<|zt<|zaa<|zt ?_
      exact zC Try.results39 () trivial (zq rfl) (by rw [if_neg (fun k=>k.2.2.2.2 ⟨l.getD i 0,Big.getD_mem (by omega),hx⟩)]) (ho:=(.n:PickO _ _ _)) (.n:SelR _ _ _)
     ·
      refine zA<|zJ<|ze<|zc<|r_pv rfl rfl (zb rfl)<|r_pv rfl rfl (zy (z:=(((i+1):Nat):Int)) rfl rfl (w64 (by first|omega|(have:=Bl.mul_b (x:=w) (y:=h) (m:=64) (n:=64) (by omega) (by omega);omega))))<|r_pv rfl rfl (zd rfl)<|zj<|zba (i+1) (show (i+1)≤n∧∀j,j<(i+1)→¬(l.getD j 0<0∨m<l.getD j 0) from by refine ⟨by omega,fun j hj=> ?_⟩;by_cases e:j=i;subst e;exact hx;exact hall j (by omega)) (by show n - (i+1)<n - i;omega) ((.c rfl (.c rfl .n)):SubM _ _) (ho:=((.c (i:=0) rfl .n):PickO _ _ _)) ((.c (j:=0) rfl .n):SelR _ _ _)
   ·
    refine zfa<|zm<|zm<|zv<|ze<|zi<|zc<|r_pv rfl rfl (zd rfl)<|zj<|ze<|zI ?_
    exact zC Try.results39 () trivial (zq rfl) (by rw [if_pos (show Bl.rok w h m l from ⟨by omega,by omega,by omega,by omega,fun ⟨g,hg,hb⟩=>by obtain ⟨j,hj,e⟩:=Big.mem_getD hg;have:=hall j (by omega);rw [e] at this;exact absurd hb this⟩)]) (ho:=(.n:PickO _ _ _)) (.n:SelR _ _ _)
theorem zzb {w:Int} {h:Int} {m:Int} {p:Option Addr} {n:Nat} {cap:Nat} {l:List Int} {th:Int} (hn:l.length=n):Con Try.prog 33 [.agg #[.int .i64 w,.int .i64 h,.int .i64 m,.slice p n cap],.int .i64 th] [] [slF (rI .i64) p cap l] (Y:=Unit) (fun y=>True) (fun y=> .int .i64 (if Bl.rok w h m l then (if 0≤th∧th≤65536 then 0 else 2) else 1)) (fun y=>[]) (fun y=>[]):=by
 refine zr Try.func33 rfl rfl rfl (fun c=> ?_)
 show RunC _ _ _ _ _ [(0,.agg #[.int .i64 w,.int .i64 h,.int .i64 m,.slice p n cap]),(1,.int .i64 th)] [] [slF (rI .i64) p cap l]
 refine zca 0 rfl (fun hL0=> ?_)
 refine zi<|zc<|zS rfl rfl (zX rfl rfl) (fun b1=> ?_)
 refine r_pv rfl rfl (zd rfl)<|zj<|ze<|zi<|zi<|zc<|r_u rfl rfl (zh 0 ty24 rfl rfl (.take (.take (.take (.take .nil)))))<|zO rfl rfl (.c rfl .n) ce56 (zRd (w:=w) (h:=h) (m:=m) (p:=p) (n:=n) (cap:=cap) (l:=l) (hn:=by assumption)) (.c (j:=0) rfl .n)<|r_pv rfl rfl (zd rfl)<|zj<|ze<|zi<|zc<|r_pv rfl rfl (zb rfl)<|r_pv rfl rfl (zIa rfl rfl)<|zj<|ze<|zD rfl (fun hc=> ?_) (fun hc=> ?_)
 ·
  have hno:¬Bl.rok w h m l:=fun k=>hc (if_pos k)
  refine zi<|zc<|r_pv rfl rfl (zb rfl)<|r_pv rfl rfl (zd rfl)<|zj<|ze<|zI<|zt ?_
  exact zC Try.results33 () trivial (zq rfl) (by simp only [if_neg hno]) (ho:=(.n:PickO _ _ _)) (.n:SelR _ _ _)
 ·
  have hok:Bl.rok w h m l:=Bl.c0.1 (Decidable.not_not.1 hc)
  refine zA<|ze<|zi<|zFa (X:=Unit) (fun x=>True) (fun x=>[(16,.bool (decide (¬(0≤th∧th≤65536)))),(4,.int .i64 0)]) (fun x=>[boxA b1 24 [.int .i64 w,.int .i64 h,.int .i64 m,.slice p n cap]]) (fun x=>[slF (rI .i64) p cap l]) ?_ ?_
  ·
   refine zc<|r_pv rfl rfl (zb rfl)<|r_pv rfl rfl (zW rfl rfl)<|zP rfl rfl (zb rfl) (fun h2=> ?_) (fun h2=> ?_)
   ·
    refine za rfl rfl<|za rfl rfl<|r_pv rfl rfl (zk rfl rfl)<|zj ?_
    exact zZ () (show True from by first|trivial|omega|simp_all) ((.e rfl (congrArg Value.bool (by exact Eq.symm (decide_eq_true (by omega)))) (.c rfl .n)):SubM _ _) (ho:=((.c (i:=0) rfl .n):PickO _ _ _)) ((.c (j:=0) rfl .n):SelR _ _ _)
   ·
    refine r_pv rfl rfl (zb rfl)<|r_pv rfl rfl (zwa rfl rfl)<|r_pv rfl rfl (zk rfl rfl)<|zj ?_
    exact zZ () (show True from by first|trivial|omega|simp_all) ((.e rfl (congrArg Value.bool (by exact decide_eq_decide.2 (by constructor <;> intro k <;> omega))) (.c rfl .n)):SubM _ _) (ho:=((.c (i:=0) rfl .n):PickO _ _ _)) ((.c (j:=0) rfl .n):SelR _ _ _)
  ·
   rintro ⟨⟩ -
   try dsimp only
   refine zD rfl (fun ht=> ?_) (fun ht=> ?_)
   ·
    refine zi<|zc<|r_pv rfl rfl (zd rfl)<|zj<|ze<|zI<|zt ?_
    exact zC Try.results33 () trivial (zq rfl) (by rw [if_pos hok,if_neg ht]) (ho:=(.n:PickO _ _ _)) (.n:SelR _ _ _)
   ·
    refine zA<|ze<|zi<|zc<|r_pv rfl rfl (zd rfl)<|zj<|ze<|zI ?_
    exact zC Try.results33 () trivial (zq rfl) (by rw [if_pos hok,if_pos (Decidable.not_not.1 ht)]) (ho:=(.n:PickO _ _ _)) (.n:SelR _ _ _)
theorem zSd {w:Int} {h:Int} {m:Int} {p:Option Addr} {n:Nat} {cap:Nat} {l:List Int} {th:Int} (hn:l.length=n):Con Try.prog 16 [.agg #[.int .i64 w,.int .i64 h,.int .i64 m,.slice p n cap],.int .i64 th] [] [slF (rI .i64) p cap l] (Y:=Unit) (fun y=>True) (fun y=> .int .i64 (if Bl.rok w h m l then (if 0≤th∧th≤65536 then 0 else 2) else 1)) (fun y=>[]) (fun y=>[]):=by
 refine zr Try.func16 rfl rfl rfl (fun c=> ?_)
 show RunC _ _ _ _ _ [(0,.agg #[.int .i64 w,.int .i64 h,.int .i64 m,.slice p n cap]),(1,.int .i64 th)] [] [slF (rI .i64) p cap l]
 refine zca 0 rfl (fun hL0=> ?_)
 refine zi<|zc<|zS rfl rfl (zX rfl rfl) (fun b1=> ?_)
 refine r_pv rfl rfl (zd rfl)<|zj<|ze<|zi<|zc<|r_u rfl rfl (zh 0 ty24 rfl rfl (.take (.take (.take (.take .nil)))))<|zO rfl rfl (.c rfl .n) ce39 (zqd (w:=w) (h:=h) (m:=m) (p:=p) (n:=n) (cap:=cap) (l:=l) (hn:=by assumption)) (.c (j:=0) rfl .n)<|r_pv rfl rfl (zd rfl)<|zj<|ze<|zi<|zi<|zc<|r_pv rfl rfl (zb rfl)<|r_pv rfl rfl (zIa rfl rfl)<|zj<|ze<|zD rfl (fun hc=> ?_) (fun hc=> ?_)
 ·
  have hno:¬Bl.rok w h m l:=fun k=>hc (if_pos k)
  refine zi<|zc<|r_pv rfl rfl (zb rfl)<|r_pv rfl rfl (zd rfl)<|zj<|ze<|zI<|zt ?_
  exact zC Try.results16 () trivial (zq rfl) (by simp only [if_neg hno]) (ho:=(.n:PickO _ _ _)) (.n:SelR _ _ _)
 ·
  have hok:Bl.rok w h m l:=Bl.c0.1 (Decidable.not_not.1 hc)
  refine zA<|ze<|zi<|zFa (X:=Unit) (fun x=>True) (fun x=>[(16,.bool (decide (¬(0≤th∧th≤65536)))),(4,.int .i64 0)]) (fun x=>[boxA b1 24 [.int .i64 w,.int .i64 h,.int .i64 m,.slice p n cap]]) (fun x=>[slF (rI .i64) p cap l]) ?_ ?_
  ·
   refine zc<|r_pv rfl rfl (zb rfl)<|r_pv rfl rfl (zW rfl rfl)<|zP rfl rfl (zb rfl) (fun h2=> ?_) (fun h2=> ?_)
   ·
    refine za rfl rfl<|za rfl rfl<|r_pv rfl rfl (zk rfl rfl)<|zj ?_
    exact zZ () (show True from by first|trivial|omega|simp_all) ((.e rfl (congrArg Value.bool (by exact Eq.symm (decide_eq_true (by omega)))) (.c rfl .n)):SubM _ _) (ho:=((.c (i:=0) rfl .n):PickO _ _ _)) ((.c (j:=0) rfl .n):SelR _ _ _)
   ·
    refine r_pv rfl rfl (zb rfl)<|r_pv rfl rfl (zwa rfl rfl)<|r_pv rfl rfl (zk rfl rfl)<|zj ?_
    exact zZ () (show True from by first|trivial|omega|simp_all) ((.e rfl (congrArg Value.bool (by exact decide_eq_decide.2 (by constructor <;> intro k <;> omega))) (.c rfl .n)):SubM _ _) (ho:=((.c (i:=0) rfl .n):PickO _ _ _)) ((.c (j:=0) rfl .n):SelR _ _ _)
  ·
   rintro ⟨⟩ -
   try dsimp only
   refine zD rfl (fun ht=> ?_) (fun ht=> ?_)
   ·
    refine zi<|zc<|r_pv rfl rfl (zd rfl)<|zj<|ze<|zI<|zt ?_
    exact zC Try.results16 () trivial (zq rfl) (by rw [if_pos hok,if_neg ht]) (ho:=(.n:PickO _ _ _)) (.n:SelR _ _ _)
   ·
    refine zA<|ze<|zi<|zc<|r_pv rfl rfl (zd rfl)<|zj<|ze<|zI ?_
    exact zC Try.results16 () trivial (zq rfl) (by rw [if_pos hok,if_pos (Decidable.not_not.1 ht)]) (ho:=(.n:PickO _ _ _)) (.n:SelR _ _ _)
end Go.Proofs.Ytefbbhiaalcjfaa.Sp
namespace Go.Proofs.Ytefbbhiaalcjfaa.Sp
open Go
set_option linter.unusedVariables false
set_option maxRecDepth 100000
set_option maxHeartbeats 8000000
theorem zAa {n:Int} {lo:Int} {hi:Int}:Con Try.prog 50 [.int .i64 n,.int .i64 lo,.int .i64 hi] [] [] (Y:=Unit) (fun y=>True) (fun y=> .bool (decide (lo≤n∧n≤hi))) (fun y=>[]) (fun y=>[]):=by
 refine zr Try.func50 rfl rfl rfl (fun c=> ?_)
 show RunC _ _ _ _ _ [(0,.int .i64 n),(1,.int .i64 lo),(2,.int .i64 hi)] [] []
 refine zi<|zc<|r_pv rfl rfl (zd rfl)<|zj<|ze<|zFa (X:=Unit) (fun x=>True) (fun x=>[(6,.bool (decide ((lo≤n)∧(n≤hi))))]) (fun x=>[]) (fun x=>[]) ?_ ?_
 ·
  refine zc<|r_pv rfl rfl (zb rfl)<|r_pv rfl rfl (zb rfl)<|r_pv rfl rfl (zya rfl rfl)<|zP rfl rfl (zb rfl) (fun h1=> ?_) (fun h1=> ?_)
  ·
   refine r_pv rfl rfl (zb rfl)<|r_pv rfl rfl (zb rfl)<|r_pv rfl rfl (zqc rfl rfl)<|r_pv rfl rfl (zk rfl rfl)<|r_pv rfl rfl (zd rfl)<|zj ?_
   exact zZ () (show True from by first|trivial|omega|simp_all) ((.e rfl (congrArg Value.bool (by first|(simp_all;done)|(simp_all;omega)|(simp;omega)|omega)) .n):SubM _ _) (ho:=(.n:PickO _ _ _)) (.n:SelR _ _ _)
  ·
   refine za rfl rfl<|za rfl rfl<|za rfl rfl<|r_pv rfl rfl (zk rfl rfl)<|r_pv rfl rfl (zd rfl)<|zj ?_
   exact zZ () (show True from by first|trivial|omega|simp_all) ((.e rfl (congrArg Value.bool (by first|(simp_all;done)|(simp_all;omega)|(simp;omega)|omega)) .n):SubM _ _) (ho:=(.n:PickO _ _ _)) (.n:SelR _ _ _)
 ·
  rintro ⟨⟩ -
  try dsimp only
  refine zI ?_
  exact zC Try.results50 () trivial (zq rfl) (congrArg Value.bool (decide_eq_decide.2 (by constructor <;> intro h <;> omega))) (ho:=(.n:PickO _ _ _)) (.n:SelR _ _ _)
end Go.Proofs.Ytefbbhiaalcjfaa.Sp
namespace Go.Proofs.Ytefbbhiaalcjfaa.Sp
open Go
set_option linter.unusedVariables false
set_option maxRecDepth 100000
set_option maxHeartbeats 8000000
theorem ztc {ar:Int} {le:Int} {tp:Int} {rt:Int} {bt:Int} {sx:Int} {sy:Int} {xx:Int} {xy:Int} {yy:Int} {ms:Int} {mx:Int} {my:Int}:Con Try.prog 28 [.agg #[.int .i64 ar,.int .i64 le,.int .i64 tp,.int .i64 rt,.int .i64 bt,.int .i64 sx,.int .i64 sy,.int .i64 xx,.int .i64 xy,.int .i64 yy,.int .i64 ms,.int .i64 mx,.int .i64 my]] [] [] (Y:=Unit) (fun y=>True) (fun y=> .int .i64 (if Bl.ok ar le tp rt bt sx sy xx xy yy ms mx my then 0 else 1)) (fun y=>[]) (fun y=>[]):=by
 refine zr Try.func28 rfl rfl rfl (fun c=> ?_)
 show RunC _ _ _ _ _ [(0,.agg #[.int .i64 ar,.int .i64 le,.int .i64 tp,.int .i64 rt,.int .i64 bt,.int .i64 sx,.int .i64 sy,.int .i64 xx,.int .i64 xy,.int .i64 yy,.int .i64 ms,.int .i64 mx,.int .i64 my])] [] []
 refine zi<|zc<|zS rfl rfl (zX rfl rfl) (fun b1=> ?_)
 refine r_pv rfl rfl (zd rfl)<|zj<|ze<|zi<|zc<|r_pv rfl rfl (zd rfl)<|zj<|ze<|zFa (X:=Unit) (fun x=>True) (fun x=>[(4,.bool (decide (((((((((((((1≤ar∧ar≤4096)∧(0≤le∧le≤rt))∧(rt≤63))∧(0≤tp∧tp≤bt))∧(bt≤63))∧((ar*le)≤sx∧sx≤(ar*rt)))∧((ar*tp)≤sy∧sy≤(ar*bt)))∧(0≤xx∧xx≤((ar*63)*63)))∧(0≤xy∧xy≤((ar*63)*63)))∧(0≤yy∧yy≤((ar*63)*63)))∧(0≤ms∧ms≤(ar*65535)))∧((ms*le)≤mx∧mx≤(ms*rt)))∧((ms*tp)≤my∧my≤(ms*bt))))),(2,.int .i64 0)]) (fun x=>[boxA b1 51 [.int .i64 ar,.int .i64 le,.int .i64 tp,.int .i64 rt,.int .i64 bt,.int .i64 sx,.int .i64 sy,.int .i64 xx,.int .i64 xy,.int .i64 yy,.int .i64 ms,.int .i64 mx,.int .i64 my]]) (fun x=>[]) ?_ ?_
 ·
  refine zc<|r_pv rfl rfl (zg Try.underlying51 rfl sz3 rfl rfl)<|r_u rfl rfl (zf 0 ty3 rfl rfl rfl)<|zO rfl rfl (.c rfl (.c rfl (.c rfl .n))) ce50 (zAa (n:=ar) (lo:=1) (hi:=4096)) (.n)<|zP rfl rfl (zb rfl) (fun h2=> ?_) (fun h2=> ?_)
  ·
   refine r_pv rfl rfl (zg Try.underlying51 rfl sz3 rfl rfl)<|r_u rfl rfl (zf 0 ty3 rfl rfl rfl)<|r_pv rfl rfl (zg Try.underlying51 rfl sz3 rfl rfl)<|r_u rfl rfl (zf 0 ty3 rfl rfl rfl)<|zO rfl rfl (.c rfl (.c rfl (.c rfl .n))) ce50 (zAa (n:=le) (lo:=0) (hi:=rt)) (.n)<|r_pv rfl rfl (zk rfl rfl)<|zP rfl rfl (zb rfl) (fun h3=> ?_) (fun h3=> ?_)
   ·
    refine r_pv rfl rfl (zg Try.underlying51 rfl sz3 rfl rfl)<|r_u rfl rfl (zf 0 ty3 rfl rfl rfl)<|r_pv rfl rfl (zb rfl)<|r_pv rfl rfl (zqc rfl rfl)<|r_pv rfl rfl (zk rfl rfl)<|zP rfl rfl (zb rfl) (fun h4=> ?_) (fun h4=> ?_)
    ·
     refine r_pv rfl rfl (zg Try.underlying51 rfl sz3 rfl rfl)<|r_u rfl rfl (zf 0 ty3 rfl rfl rfl)<|r_pv rfl rfl (zg Try.underlying51 rfl sz3 rfl rfl)<|r_u rfl rfl (zf 0 ty3 rfl rfl rfl)<|zO rfl rfl (.c rfl (.c rfl (.c rfl .n))) ce50 (zAa (n:=tp) (lo:=0) (hi:=bt)) (.n)<|r_pv rfl rfl (zk rfl rfl)<|zP rfl rfl (zb rfl) (fun h5=> ?_) (fun h5=> ?_)
     ·
      refine r_pv rfl rfl (zg Try.underlying51 rfl sz3 rfl rfl)<|r_u rfl rfl (zf 0 ty3 rfl rfl rfl)<|r_pv rfl rfl (zb rfl)<|r_pv rfl rfl (zqc rfl rfl)<|r_pv rfl rfl (zk rfl rfl)<|zP rfl rfl (zb rfl) (fun h6=> ?_) (fun h6=> ?_)
      ·
       refine r_pv rfl rfl (zg Try.underlying51 rfl sz3 rfl rfl)<|r_u rfl rfl (zf 0 ty3 rfl rfl rfl)<|r_pv rfl rfl (zg Try.underlying51 rfl sz3 rfl rfl)<|r_u rfl rfl (zf 0 ty3 rfl rfl rfl)<|r_pv rfl rfl (zg Try.underlying51 rfl sz3 rfl rfl)<|r_u rfl rfl (zf 0 ty3 rfl rfl rfl)<|r_pv rfl rfl (zla (z:=(ar*le)) rfl rfl (w64 (by first|omega|(have:=Bl.mul_b (x:=ar) (y:=le) (m:=4096) (n:=63) (by omega) (by omega);omega)|(have:=Bl.mul_b (x:=ar) (y:=rt) (m:=4096) (n:=63) (by omega) (by omega);omega)|(have:=Bl.mul_b (x:=ar) (y:=tp) (m:=4096) (n:=63) (by omega) (by omega);omega)|(have:=Bl.mul_b (x:=ar) (y:=bt) (m:=4096) (n:=63) (by omega) (by omega);omega)|(have:=Bl.mul_b (x:=ms) (y:=le) (m:=268431360) (n:=63) (by omega) (by omega);omega)|(have:=Bl.mul_b (x:=ms) (y:=rt) (m:=268431360) (n:=63) (by omega) (by omega);omega)|(have:=Bl.mul_b (x:=ms) (y:=tp) (m:=268431360) (n:=63) (by omega) (by omega);omega)|(have:=Bl.mul_b (x:=ms) (y:=bt) (m:=268431360) (n:=63) (by omega) (by omega);omega))))<|r_pv rfl rfl (zg Try.underlying51 rfl sz3 rfl rfl)<|r_u rfl rfl (zf 0 ty3 rfl rfl rfl)<|r_pv rfl rfl (zg Try.underlying51 rfl sz3 rfl rfl)<|r_u rfl rfl (zf 0 ty3 rfl rfl rfl)<|r_pv rfl rfl (zla (z:=(ar*rt)) rfl rfl (w64 (by first|omega|(have:=Bl.mul_b (x:=ar) (y:=le) (m:=4096) (n:=63) (by omega) (by omega);omega)|(have:=Bl.mul_b (x:=ar) (y:=rt) (m:=4096) (n:=63) (by omega) (by omega);omega)|(have:=Bl.mul_b (x:=ar) (y:=tp) (m:=4096) (n:=63) (by omega) (by omega);omega)|(have:=Bl.mul_b (x:=ar) (y:=bt) (m:=4096) (n:=63) (by omega) (by omega);omega)|(have:=Bl.mul_b (x:=ms) (y:=le) (m:=268431360) (n:=63) (by omega) (by omega);omega)|(have:=Bl.mul_b (x:=ms) (y:=rt) (m:=268431360) (n:=63) (by omega) (by omega);omega)|(have:=Bl.mul_b (x:=ms) (y:=tp) (m:=268431360) (n:=63) (by omega) (by omega);omega)|(have:=Bl.mul_b (x:=ms) (y:=bt) (m:=268431360) (n:=63) (by omega) (by omega);omega))))<|zO rfl rfl (.c rfl (.c rfl (.c rfl .n))) ce50 (zAa (n:=sx) (lo:=(ar*le)) (hi:=(ar*rt))) (.n)<|r_pv rfl rfl (zk rfl rfl)<|zP rfl rfl (zb rfl) (fun h7=> ?_) (fun h7=> ?_)
       ·
        refine r_pv rfl rfl (zg Try.underlying51 rfl sz3 rfl rfl)<|r_u rfl rfl (zf 0 ty3 rfl rfl rfl)<|r_pv rfl rfl (zg Try.underlying51 rfl sz3 rfl rfl)<|r_u rfl rfl (zf 0 ty3 rfl rfl rfl)<|r_pv rfl rfl (zg Try.underlying51 rfl sz3 rfl rfl)<|r_u rfl rfl (zf 0 ty3 rfl rfl rfl)<|r_pv rfl rfl (zla (z:=(ar*tp)) rfl rfl (w64 (by first|omega|(have:=Bl.mul_b (x:=ar) (y:=le) (m:=4096) (n:=63) (by omega) (by omega);omega)|(have:=Bl.mul_b (x:=ar) (y:=rt) (m:=4096) (n:=63) (by omega) (by omega);omega)|(have:=Bl.mul_b (x:=ar) (y:=tp) (m:=4096) (n:=63) (by omega) (by omega);omega)|(have:=Bl.mul_b (x:=ar) (y:=bt) (m:=4096) (n:=63) (by omega) (by omega);omega)|(have:=Bl.mul_b (x:=ms) (y:=le) (m:=268431360) (n:=63) (by omega) (by omega);omega)|(have:=Bl.mul_b (x:=ms) (y:=rt) (m:=268431360) (n:=63) (by omega) (by omega);omega)|(have:=Bl.mul_b (x:=ms) (y:=tp) (m:=268431360) (n:=63) (by omega) (by omega);omega)|(have:=Bl.mul_b (x:=ms) (y:=bt) (m:=268431360) (n:=63) (by omega) (by omega);omega))))<|r_pv rfl rfl (zg Try.underlying51 rfl sz3 rfl rfl)<|r_u rfl rfl (zf 0 ty3 rfl rfl rfl)<|r_pv rfl rfl (zg Try.underlying51 rfl sz3 rfl rfl)<|r_u rfl rfl (zf 0 ty3 rfl rfl rfl)<|r_pv rfl rfl (zla (z:=(ar*bt)) rfl rfl (w64 (by first|omega|(have:=Bl.mul_b (x:=ar) (y:=le) (m:=4096) (n:=63) (by omega) (by omega);omega)|(have:=Bl.mul_b (x:=ar) (y:=rt) (m:=4096) (n:=63) (by omega) (by omega);omega)|(have:=Bl.mul_b (x:=ar) (y:=tp) (m:=4096) (n:=63) (by omega) (by omega);omega)|(have:=Bl.mul_b (x:=ar) (y:=bt) (m:=4096) (n:=63) (by omega) (by omega);omega)|(have:=Bl.mul_b (x:=ms) (y:=le) (m:=268431360) (n:=63) (by omega) (by omega);omega)|(have:=Bl.mul_b (x:=ms) (y:=rt) (m:=268431360) (n:=63) (by omega) (by omega);omega)|(have:=Bl.mul_b (x:=ms) (y:=tp) (m:=268431360) (n:=63) (by omega) (by omega);omega)|(have:=Bl.mul_b (x:=ms) (y:=bt) (m:=268431360) (n:=63) (by omega) (by omega);omega))))<|zO rfl rfl (.c rfl (.c rfl (.c rfl .n))) ce50 (zAa (n:=sy) (lo:=(ar*tp)) (hi:=(ar*bt))) (.n)<|r_pv rfl rfl (zk rfl rfl)<|zP rfl rfl (zb rfl) (fun h8=> ?_) (fun h8=> ?_)
        ·
         refine r_pv rfl rfl (zg Try.underlying51 rfl sz3 rfl rfl)<|r_u rfl rfl (zf 0 ty3 rfl rfl rfl)<|r_pv rfl rfl (zg Try.underlying51 rfl sz3 rfl rfl)<|r_u rfl rfl (zf 0 ty3 rfl rfl rfl)<|r_pv rfl rfl (zb rfl)<|r_pv rfl rfl (zla (z:=(ar*63)) rfl rfl (w64 (by first|omega|(have:=Bl.mul_b (x:=ar) (y:=le) (m:=4096) (n:=63) (by omega) (by omega);omega)|(have:=Bl.mul_b (x:=ar) (y:=rt) (m:=4096) (n:=63) (by omega) (by omega);omega)|(have:=Bl.mul_b (x:=ar) (y:=tp) (m:=4096) (n:=63) (by omega) (by omega);omega)|(have:=Bl.mul_b (x:=ar) (y:=bt) (m:=4096) (n:=63) (by omega) (by omega);omega)|(have:=Bl.mul_b (x:=ms) (y:=le) (m:=268431360) (n:=63) (by omega) (by omega);omega)|(have:=Bl.mul_b (x:=ms) (y:=rt) (m:=268431360) (n:=63) (by omega) (by omega);omega)|(have:=Bl.mul_b (x:=ms) (y:=tp) (m:=268431360) (n:=63) (by omega) (by omega);omega)|(have:=Bl.mul_b (x:=ms) (y:=bt) (m:=268431360) (n:=63) (by omega) (by omega);omega))))<|r_pv rfl rfl (zb rfl)<|r_pv rfl rfl (zla (z:=((ar*63)*63)) rfl rfl (w64 (by first|omega|(have:=Bl.mul_b (x:=ar) (y:=le) (m:=4096) (n:=63) (by omega) (by omega);omega)|(have:=Bl.mul_b (x:=ar) (y:=rt) (m:=4096) (n:=63) (by omega) (by omega);omega)|(have:=Bl.mul_b (x:=ar) (y:=tp) (m:=4096) (n:=63) (by omega) (by omega);omega)|(have:=Bl.mul_b (x:=ar) (y:=bt) (m:=4096) (n:=63) (by omega) (by omega);omega)|(have:=Bl.mul_b (x:=ms) (y:=le) (m:=268431360) (n:=63) (by omega) (by omega);omega)|(have:=Bl.mul_b (x:=ms) (y:=rt) (m:=268431360) (n:=63) (by omega) (by omega);omega)|(have:=Bl.mul_b (x:=ms) (y:=tp) (m:=268431360) (n:=63) (by omega) (by omega);omega)|(have:=Bl.mul_b (x:=ms) (y:=bt) (m:=268431360) (n:=63) (by omega) (by omega);omega))))<|zO rfl rfl (.c rfl (.c rfl (.c rfl .n))) ce50 (zAa (n:=xx) (lo:=0) (hi:=((ar*63)*63))) (.n)<|r_pv rfl rfl (zk rfl rfl)<|zP rfl rfl (zb rfl) (fun h9=> ?_) (fun h9=> ?_)
         ·
          refine r_pv rfl rfl (zg Try.underlying51 rfl sz3 rfl rfl)<|r_u rfl rfl (zf 0 ty3 rfl rfl rfl)<|r_pv rfl rfl (zg Try.underlying51 rfl sz3 rfl rfl)<|r_u rfl rfl (zf 0 ty3 rfl rfl rfl)<|r_pv rfl rfl (zb rfl)<|r_pv rfl rfl (zla (z:=(ar*63)) rfl rfl (w64 (by first|omega|(have:=Bl.mul_b (x:=ar) (y:=le) (m:=4096) (n:=63) (by omega) (by omega);omega)|(have:=Bl.mul_b (x:=ar) (y:=rt) (m:=4096) (n:=63) (by omega) (by omega);omega)|(have:=Bl.mul_b (x:=ar) (y:=tp) (m:=4096) (n:=63) (by omega) (by omega);omega)|(have:=Bl.mul_b (x:=ar) (y:=bt) (m:=4096) (n:=63) (by omega) (by omega);omega)|(have:=Bl.mul_b (x:=ms) (y:=le) (m:=268431360) (n:=63) (by omega) (by omega);omega)|(have:=Bl.mul_b (x:=ms) (y:=rt) (m:=268431360) (n:=63) (by omega) (by omega);omega)|(have:=Bl.mul_b (x:=ms) (y:=tp) (m:=268431360) (n:=63) (by omega) (by omega);omega)|(have:=Bl.mul_b (x:=ms) (y:=bt) (m:=268431360) (n:=63) (by omega) (by omega);omega))))<|r_pv rfl rfl (zb rfl)<|r_pv rfl rfl (zla (z:=((ar*63)*63)) rfl rfl (w64 (by first|omega|(have:=Bl.mul_b (x:=ar) (y:=le) (m:=4096) (n:=63) (by omega) (by omega);omega)|(have:=Bl.mul_b (x:=ar) (y:=rt) (m:=4096) (n:=63) (by omega) (by omega);omega)|(have:=Bl.mul_b (x:=ar) (y:=tp) (m:=4096) (n:=63) (by omega) (by omega);omega)|(have:=Bl.mul_b (x:=ar) (y:=bt) (m:=4096) (n:=63) (by omega) (by omega);omega)|(have:=Bl.mul_b (x:=ms) (y:=le) (m:=268431360) (n:=63) (by omega) (by omega);omega)|(have:=Bl.mul_b (x:=ms) (y:=rt) (m:=268431360) (n:=63) (by omega) (by omega);omega)|(have:=Bl.mul_b (x:=ms) (y:=tp) (m:=268431360) (n:=63) (by omega) (by omega);omega)|(have:=Bl.mul_b (x:=ms) (y:=bt) (m:=268431360) (n:=63) (by omega) (by omega);omega))))<|zO rfl rfl (.c rfl (.c rfl (.c rfl .n))) ce50 (zAa (n:=xy) (lo:=0) (hi:=((ar*63)*63))) (.n)<|r_pv rfl rfl (zk rfl rfl)<|zP rfl rfl (zb rfl) (fun h10=> ?_) (fun h10=> ?_)
          ·
           refine r_pv rfl rfl (zg Try.underlying51 rfl sz3 rfl rfl)<|r_u rfl rfl (zf 0 ty3 rfl rfl rfl)<|r_pv rfl rfl (zg Try.underlying51 rfl sz3 rfl rfl)<|r_u rfl rfl (zf 0 ty3 rfl rfl rfl)<|r_pv rfl rfl (zb rfl)<|r_pv rfl rfl (zla (z:=(ar*63)) rfl rfl (w64 (by first|omega|(have:=Bl.mul_b (x:=ar) (y:=le) (m:=4096) (n:=63) (by omega) (by omega);omega)|(have:=Bl.mul_b (x:=ar) (y:=rt) (m:=4096) (n:=63) (by omega) (by omega);omega)|(have:=Bl.mul_b (x:=ar) (y:=tp) (m:=4096) (n:=63) (by omega) (by omega);omega)|(have:=Bl.mul_b (x:=ar) (y:=bt) (m:=4096) (n:=63) (by omega) (by omega);omega)|(have:=Bl.mul_b (x:=ms) (y:=le) (m:=268431360) (n:=63) (by omega) (by omega);omega)|(have:=Bl.mul_b (x:=ms) (y:=rt) (m:=268431360) (n:=63) (by omega) (by omega);omega)|(have:=Bl.mul_b (x:=ms) (y:=tp) (m:=268431360) (n:=63) (by omega) (by omega);omega)|(have:=Bl.mul_b (x:=ms) (y:=bt) (m:=268431360) (n:=63) (by omega) (by omega);omega))))<|r_pv rfl rfl (zb rfl)<|r_pv rfl rfl (zla (z:=((ar*63)*63)) rfl rfl (w64 (by first|omega|(have:=Bl.mul_b (x:=ar) (y:=le) (m:=4096) (n:=63) (by omega) (by omega);omega)|(have:=Bl.mul_b (x:=ar) (y:=rt) (m:=4096) (n:=63) (by omega) (by omega);omega)|(have:=Bl.mul_b (x:=ar) (y:=tp) (m:=4096) (n:=63) (by omega) (by omega);omega)|(have:=Bl.mul_b (x:=ar) (y:=bt) (m:=4096) (n:=63) (by omega) (by omega);omega)|(have:=Bl.mul_b (x:=ms) (y:=le) (m:=268431360) (n:=63) (by omega) (by omega);omega)|(have:=Bl.mul_b (x:=ms) (y:=rt) (m:=268431360) (n:=63) (by omega) (by omega);omega)|(have:=Bl.mul_b (x:=ms) (y:=tp) (m:=268431360) (n:=63) (by omega) (by omega);omega)|(have:=Bl.mul_b (x:=ms) (y:=bt) (m:=268431360) (n:=63) (by omega) (by omega);omega))))<|zO rfl rfl (.c rfl (.c rfl (.c rfl .n))) ce50 (zAa (n:=yy) (lo:=0) (hi:=((ar*63)*63))) (.n)<|r_pv rfl rfl (zk rfl rfl)<|zP rfl rfl (zb rfl) (fun h11=> ?_) (fun h11=> ?_)
           ·
            refine r_pv rfl rfl (zg Try.underlying51 rfl sz3 rfl rfl)<|r_u rfl rfl (zf 0 ty3 rfl rfl rfl)<|r_pv rfl rfl (zg Try.underlying51 rfl sz3 rfl rfl)<|r_u rfl rfl (zf 0 ty3 rfl rfl rfl)<|r_pv rfl rfl (zla (z:=(ar*65535)) rfl rfl (w64 (by first|omega|(have:=Bl.mul_b (x:=ar) (y:=le) (m:=4096) (n:=63) (by omega) (by omega);omega)|(have:=Bl.mul_b (x:=ar) (y:=rt) (m:=4096) (n:=63) (by omega) (by omega);omega)|(have:=Bl.mul_b (x:=ar) (y:=tp) (m:=4096) (n:=63) (by omega) (by omega);omega)|(have:=Bl.mul_b (x:=ar) (y:=bt) (m:=4096) (n:=63) (by omega) (by omega);omega)|(have:=Bl.mul_b (x:=ms) (y:=le) (m:=268431360) (n:=63) (by omega) (by omega);omega)|(have:=Bl.mul_b (x:=ms) (y:=rt) (m:=268431360) (n:=63) (by omega) (by omega);omega)|(have:=Bl.mul_b (x:=ms) (y:=tp) (m:=268431360) (n:=63) (by omega) (by omega);omega)|(have:=Bl.mul_b (x:=ms) (y:=bt) (m:=268431360) (n:=63) (by omega) (by omega);omega))))<|zO rfl rfl (.c rfl (.c rfl (.c rfl .n))) ce50 (zAa (n:=ms) (lo:=0) (hi:=(ar*65535))) (.n)<|r_pv rfl rfl (zk rfl rfl)<|zP rfl rfl (zb rfl) (fun h12=> ?_) (fun h12=> ?_)
            ·
             refine r_pv rfl rfl (zg Try.underlying51 rfl sz3 rfl rfl)<|r_u rfl rfl (zf 0 ty3 rfl rfl rfl)<|r_pv rfl rfl (zg Try.underlying51 rfl sz3 rfl rfl)<|r_u rfl rfl (zf 0 ty3 rfl rfl rfl)<|r_pv rfl rfl (zg Try.underlying51 rfl sz3 rfl rfl)<|r_u rfl rfl (zf 0 ty3 rfl rfl rfl)<|r_pv rfl rfl (zla (z:=(ms*le)) rfl rfl (w64 (by first|omega|(have:=Bl.mul_b (x:=ar) (y:=le) (m:=4096) (n:=63) (by omega) (by omega);omega)|(have:=Bl.mul_b (x:=ar) (y:=rt) (m:=4096) (n:=63) (by omega) (by omega);omega)|(have:=Bl.mul_b (x:=ar) (y:=tp) (m:=4096) (n:=63) (by omega) (by omega);omega)|(have:=Bl.mul_b (x:=ar) (y:=bt) (m:=4096) (n:=63) (by omega) (by omega);omega)|(have:=Bl.mul_b (x:=ms) (y:=le) (m:=268431360) (n:=63) (by omega) (by omega);omega)|(have:=Bl.mul_b (x:=ms) (y:=rt) (m:=268431360) (n:=63) (by omega) (by omega);omega)|(have:=Bl.mul_b (x:=ms) (y:=tp) (m:=268431360) (n:=63) (by omega) (by omega);omega)|(have:=Bl.mul_b (x:=ms) (y:=bt) (m:=268431360) (n:=63) (by omega) (by omega);omega))))<|r_pv rfl rfl (zg Try.underlying51 rfl sz3 rfl rfl)<|r_u rfl rfl (zf 0 ty3 rfl rfl rfl)<|r_pv rfl rfl (zg Try.underlying51 rfl sz3 rfl rfl)<|r_u rfl rfl (zf 0 ty3 rfl rfl rfl)<|r_pv rfl rfl (zla (z:=(ms*rt)) rfl rfl (w64 (by first|omega|(have:=Bl.mul_b (x:=ar) (y:=le) (m:=4096) (n:=63) (by omega) (by omega);omega)|(have:=Bl.mul_b (x:=ar) (y:=rt) (m:=4096) (n:=63) (by omega) (by omega);omega)|(have:=Bl.mul_b (x:=ar) (y:=tp) (m:=4096) (n:=63) (by omega) (by omega);omega)|(have:=Bl.mul_b (x:=ar) (y:=bt) (m:=4096) (n:=63) (by omega) (by omega);omega)|(have:=Bl.mul_b (x:=ms) (y:=le) (m:=268431360) (n:=63) (by omega) (by omega);omega)|(have:=Bl.mul_b (x:=ms) (y:=rt) (m:=268431360) (n:=63) (by omega) (by omega);omega)|(have:=Bl.mul_b (x:=ms) (y:=tp) (m:=268431360) (n:=63) (by omega) (by omega);omega)|(have:=Bl.mul_b (x:=ms) (y:=bt) (m:=268431360) (n:=63) (by omega) (by omega);omega))))<|zO rfl rfl (.c rfl (.c rfl (.c rfl .n))) ce50 (zAa (n:=mx) (lo:=(ms*le)) (hi:=(ms*rt))) (.n)<|r_pv rfl rfl (zk rfl rfl)<|zP rfl rfl (zb rfl) (fun h13=> ?_) (fun h13=> ?_)
             ·
              refine r_pv rfl rfl (zg Try.underlying51 rfl sz3 rfl rfl)<|r_u rfl rfl (zf 0 ty3 rfl rfl rfl)<|r_pv rfl rfl (zg Try.underlying51 rfl sz3 rfl rfl)<|r_u rfl rfl (zf 0 ty3 rfl rfl rfl)<|r_pv rfl rfl (zg Try.underlying51 rfl sz3 rfl rfl)<|r_u rfl rfl (zf 0 ty3 rfl rfl rfl)<|r_pv rfl rfl (zla (z:=(ms*tp)) rfl rfl (w64 (by first|omega|(have:=Bl.mul_b (x:=ar) (y:=le) (m:=4096) (n:=63) (by omega) (by omega);omega)|(have:=Bl.mul_b (x:=ar) (y:=rt) (m:=4096) (n:=63) (by omega) (by omega);omega)|(have:=Bl.mul_b (x:=ar) (y:=tp) (m:=4096) (n:=63) (by omega) (by omega);omega)|(have:=Bl.mul_b (x:=ar) (y:=bt) (m:=4096) (n:=63) (by omega) (by omega);omega)|(have:=Bl.mul_b (x:=ms) (y:=le) (m:=268431360) (n:=63) (by omega) (by omega);omega)|(have:=Bl.mul_b (x:=ms) (y:=rt) (m:=268431360) (n:=63) (by omega) (by omega);omega)|(have:=Bl.mul_b (x:=ms) (y:=tp) (m:=268431360) (n:=63) (by omega) (by omega);omega)|(have:=Bl.mul_b (x:=ms) (y:=bt) (m:=268431360) (n:=63) (by omega) (by omega);omega))))<|r_pv rfl rfl (zg Try.underlying51 rfl sz3 rfl rfl)<|r_u rfl rfl (zf 0 ty3 rfl rfl rfl)<|r_pv rfl rfl (zg Try.underlying51 rfl sz3 rfl rfl)<|r_u rfl rfl (zf 0 ty3 rfl rfl rfl)<|r_pv rfl rfl (zla (z:=(ms*bt)) rfl rfl (w64 (by first|omega|(have:=Bl.mul_b (x:=ar) (y:=le) (m:=4096) (n:=63) (by omega) (by omega);omega)|(have:=Bl.mul_b (x:=ar) (y:=rt) (m:=4096) (n:=63) (by omega) (by omega);omega)|(have:=Bl.mul_b (x:=ar) (y:=tp) (m:=4096) (n:=63) (by omega) (by omega);omega)|(have:=Bl.mul_b (x:=ar) (y:=bt) (m:=4096) (n:=63) (by omega) (by omega);omega)|(have:=Bl.mul_b (x:=ms) (y:=le) (m:=268431360) (n:=63) (by omega) (by omega);omega)|(have:=Bl.mul_b (x:=ms) (y:=rt) (m:=268431360) (n:=63) (by omega) (by omega);omega)|(have:=Bl.mul_b (x:=ms) (y:=tp) (m:=268431360) (n:=63) (by omega) (by omega);omega)|(have:=Bl.mul_b (x:=ms) (y:=bt) (m:=268431360) (n:=63) (by omega) (by omega);omega))))<|zO rfl rfl (.c rfl (.c rfl (.c rfl .n))) ce50 (zAa (n:=my) (lo:=(ms*tp)) (hi:=(ms*bt))) (.n)<|r_pv rfl rfl (zk rfl rfl)<|r_pv rfl rfl (zd rfl)<|zj ?_
              exact zZ () (show True from by first|trivial|omega|simp_all) ((.e rfl (congrArg Value.bool (by first|(simp_all;done)|(simp_all;omega)|(simp;omega)|omega)) (.c rfl .n)):SubM _ _) (ho:=((.c (i:=0) rfl .n):PickO _ _ _)) (.n:SelR _ _ _)
             ·
              refine za rfl rfl<|za rfl rfl<|za rfl rfl<|za rfl rfl<|za rfl rfl<|za rfl rfl<|za rfl rfl<|za rfl rfl<|za rfl rfl<|za rfl rfl<|za rfl rfl<|za rfl rfl<|za rfl rfl<|r_pv rfl rfl (zk rfl rfl)<|r_pv rfl rfl (zd rfl)<|zj ?_
              exact zZ () (show True from by first|trivial|omega|simp_all) ((.e rfl (congrArg Value.bool (by first|(simp_all;done)|(simp_all;omega)|(simp;omega)|omega)) (.c rfl .n)):SubM _ _) (ho:=((.c (i:=0) rfl .n):PickO _ _ _)) (.n:SelR _ _ _)
            ·
             refine za rfl rfl<|za rfl rfl<|za rfl rfl<|za rfl rfl<|za rfl rfl<|za rfl rfl<|za rfl rfl<|za rfl rfl<|za rfl rfl<|za rfl rfl<|za rfl rfl<|za rfl rfl<|za rfl rfl<|r_pv rfl rfl (zk rfl rfl)<|r_pv rfl rfl (zb rfl)<|za rfl rfl<|za rfl rfl<|za rfl rfl<|za rfl rfl<|za rfl rfl<|za rfl rfl<|za rfl rfl<|za rfl rfl<|za rfl rfl<|za rfl rfl<|za rfl rfl<|za rfl rfl<|za rfl rfl<|r_pv rfl rfl (zk rfl rfl)<|r_pv rfl rfl (zd rfl)<|zj ?_
             exact zZ () (show True from by first|trivial|omega|simp_all) ((.e rfl (congrArg Value.bool (by first|(simp_all;done)|(simp_all;omega)|(simp;omega)|omega)) (.c rfl .n)):SubM _ _) (ho:=((.c (i:=0) rfl .n):PickO _ _ _)) (.n:SelR _ _ _)
           ·
            refine za rfl rfl<|za rfl rfl<|za rfl rfl<|za rfl rfl<|za rfl rfl<|za rfl rfl<|r_pv rfl rfl (zk rfl rfl)<|r_pv rfl rfl (zb rfl)<|za rfl rfl<|za rfl rfl<|za rfl rfl<|za rfl rfl<|za rfl rfl<|za rfl rfl<|za rfl rfl<|za rfl rfl<|za rfl rfl<|za rfl rfl<|za rfl rfl<|za rfl rfl<|za rfl rfl<|r_pv rfl rfl (zk rfl rfl)<|r_pv rfl rfl (zb rfl)<|za rfl rfl<|za rfl rfl<|za rfl rfl<|za rfl rfl<|za rfl rfl<|za rfl rfl<|za rfl rfl<|za rfl rfl<|za rfl rfl<|za rfl rfl<|za rfl rfl<|za rfl rfl<|za rfl rfl<|r_pv rfl rfl (zk rfl rfl)<|r_pv rfl rfl (zd rfl)<|zj ?_
            exact zZ () (show True from by first|trivial|omega|simp_all) ((.e rfl (congrArg Value.bool (by first|(simp_all;done)|(simp_all;omega)|(simp;omega)|omega)) (.c rfl .n)):SubM _ _) (ho:=((.c (i:=0) rfl .n):PickO _ _ _)) (.n:SelR _ _ _)
          ·
           refine za rfl rfl<|za rfl rfl<|za rfl rfl<|za rfl rfl<|za rfl rfl<|za rfl rfl<|za rfl rfl<|za rfl rfl<|za rfl rfl<|r_pv rfl rfl (zk rfl rfl)<|r_pv rfl rfl (zb rfl)<|za rfl rfl<|za rfl rfl<|za rfl rfl<|za rfl rfl<|za rfl rfl<|za rfl rfl<|r_pv rfl rfl (zk rfl rfl)<|r_pv rfl rfl (zb rfl)<|za rfl rfl<|za rfl rfl<|za rfl rfl<|za rfl rfl<|za rfl rfl<|za rfl rfl<|za rfl rfl<|za rfl rfl<|za rfl rfl<|za rfl rfl<|za rfl rfl<|za rfl rfl<|za rfl rfl<|r_pv rfl rfl (zk rfl rfl)<|r_pv rfl rfl (zb rfl)<|za rfl rfl<|za rfl rfl<|za rfl rfl<|za rfl rfl<|za rfl rfl<|za rfl rfl<|za rfl rfl<|za rfl rfl<|za rfl rfl<|za rfl rfl<|za rfl rfl<|za rfl rfl<|za rfl rfl<|r_pv rfl rfl (zk rfl rfl)<|r_pv rfl rfl (zd rfl)<|zj ?_
           exact zZ () (show True from by first|trivial|omega|simp_all) ((.e rfl (congrArg Value.bool (by first|(simp_all;done)|(simp_all;omega)|(simp;omega)|omega)) (.c rfl .n)):SubM _ _) (ho:=((.c (i:=0) rfl .n):PickO _ _ _)) (.n:SelR _ _ _)
         ·
          refine za rfl rfl<|za rfl rfl<|za rfl rfl<|za rfl rfl<|za rfl rfl<|za rfl rfl<|za rfl rfl<|za rfl rfl<|za rfl rfl<|r_pv rfl rfl (zk rfl rfl)<|r_pv rfl rfl (zb rfl)<|za rfl rfl<|za rfl rfl<|za rfl rfl<|za rfl rfl<|za rfl rfl<|za rfl rfl<|za rfl rfl<|za rfl rfl<|za rfl rfl<|r_pv rfl rfl (zk rfl rfl)<|r_pv rfl rfl (zb rfl)<|za rfl rfl<|za rfl rfl<|za rfl rfl<|za rfl rfl<|za rfl rfl<|za rfl rfl<|r_pv rfl rfl (zk rfl rfl)<|r_pv rfl rfl (zb rfl)<|za rfl rfl<|za rfl rfl<|za rfl rfl<|za rfl rfl<|za rfl rfl<|za rfl rfl<|za rfl rfl<|za rfl rfl<|za rfl rfl<|za rfl rfl<|za rfl rfl<|za rfl rfl<|za rfl rfl<|r_pv rfl rfl (zk rfl rfl)<|r_pv rfl rfl (zb rfl)<|za rfl rfl<|za rfl rfl<|za rfl rfl<|za rfl rfl<|za rfl rfl<|za rfl rfl<|za rfl rfl<|za rfl rfl<|za rfl rfl<|za rfl rfl<|za rfl rfl<|za rfl rfl<|za rfl rfl<|r_pv rfl rfl (zk rfl rfl)<|r_pv rfl rfl (zd rfl)<|zj ?_
          exact zZ () (show True from by first|trivial|omega|simp_all) ((.e rfl (congrArg Value.bool (by first|(simp_all;done)|(simp_all;omega)|(simp;omega)|omega)) (.c rfl .n)):SubM _ _) (ho:=((.c (i:=0) rfl .n):PickO _ _ _)) (.n:SelR _ _ _)
        ·
         refine za rfl rfl<|za rfl rfl<|za rfl rfl<|za rfl rfl<|za rfl rfl<|za rfl rfl<|za rfl rfl<|za rfl rfl<|za rfl rfl<|r_pv rfl rfl (zk rfl rfl)<|r_pv rfl rfl (zb rfl)<|za rfl rfl<|za rfl rfl<|za rfl rfl<|za rfl rfl<|za rfl rfl<|za rfl rfl<|za rfl rfl<|za rfl rfl<|za rfl rfl<|r_pv rfl rfl (zk rfl rfl)<|r_pv rfl rfl (zb rfl)<|za rfl rfl<|za rfl rfl<|za rfl rfl<|za rfl rfl<|za rfl rfl<|za rfl rfl<|za rfl rfl<|za rfl rfl<|za rfl rfl<|r_pv rfl rfl (zk rfl rfl)<|r_pv rfl rfl (zb rfl)<|za rfl rfl<|za rfl rfl<|za rfl rfl<|za rfl rfl<|za rfl rfl<|za rfl rfl<|r_pv rfl rfl (zk rfl rfl)<|r_pv rfl rfl (zb rfl)<|za rfl rfl<|za rfl rfl<|za rfl rfl<|za rfl rfl<|za rfl rfl<|za rfl rfl<|za rfl rfl<|za rfl rfl<|za rfl rfl<|za rfl rfl<|za rfl rfl<|za rfl rfl<|za rfl rfl<|r_pv rfl rfl (zk rfl rfl)<|r_pv rfl rfl (zb rfl)<|za rfl rfl<|za rfl rfl<|za rfl rfl<|za rfl rfl<|za rfl rfl<|za rfl rfl<|za rfl rfl<|za rfl rfl<|za rfl rfl<|za rfl rfl<|za rfl rfl<|za rfl rfl<|za rfl rfl<|r_pv rfl rfl (zk rfl rfl)<|r_pv rfl rfl (zd rfl)<|zj ?_
         exact zZ () (show True from by first|trivial|omega|simp_all) ((.e rfl (congrArg Value.bool (by first|(simp_all;done)|(simp_all;omega)|(simp;omega)|omega)) (.c rfl .n)):SubM _ _) (ho:=((.c (i:=0) rfl .n):PickO _ _ _)) (.n:SelR _ _ _)
       ·
        refine za rfl rfl<|za rfl rfl<|za rfl rfl<|za rfl rfl<|za rfl rfl<|za rfl rfl<|za rfl rfl<|za rfl rfl<|za rfl rfl<|za rfl rfl<|za rfl rfl<|za rfl rfl<|za rfl rfl<|r_pv rfl rfl (zk rfl rfl)<|r_pv rfl rfl (zb rfl)<|za rfl rfl<|za rfl rfl<|za rfl rfl<|za rfl rfl<|za rfl rfl<|za rfl rfl<|za rfl rfl<|za rfl rfl<|za rfl rfl<|r_pv rfl rfl (zk rfl rfl)<|r_pv rfl rfl (zb rfl)<|za rfl rfl<|za rfl rfl<|za rfl rfl<|za rfl rfl<|za rfl rfl<|za rfl rfl<|za rfl rfl<|za rfl rfl<|za rfl rfl<|r_pv rfl rfl (zk rfl rfl)<|r_pv rfl rfl (zb rfl)<|za rfl rfl<|za rfl rfl<|za rfl rfl<|za rfl rfl<|za rfl rfl<|za rfl rfl<|za rfl rfl<|za rfl rfl<|za rfl rfl<|r_pv rfl rfl (zk rfl rfl)<|r_pv rfl rfl (zb rfl)<|za rfl rfl<|za rfl rfl<|za rfl rfl<|za rfl rfl<|za rfl rfl<|za rfl rfl<|r_pv rfl rfl (zk rfl rfl)<|r_pv rfl rfl (zb rfl)<|za rfl rfl<|za rfl rfl<|za rfl rfl<|za rfl rfl<|za rfl rfl<|za rfl rfl<|za rfl rfl<|za rfl rfl<|za rfl rfl<|za rfl rfl<|za rfl rfl<|za rfl rfl<|za rfl rfl<|r_pv rfl rfl (zk rfl rfl)<|r_pv rfl rfl (zb rfl)<|za rfl rfl<|za rfl rfl<|za rfl rfl<|za rfl rfl<|za rfl rfl<|za rfl rfl<|za rfl rfl<|za rfl rfl<|za rfl rfl<|za rfl rfl<|za rfl rfl<|za rfl rfl<|za rfl rfl<|r_pv rfl rfl (zk rfl rfl)<|r_pv rfl rfl (zd rfl)<|zj ?_
        exact zZ () (show True from by first|trivial|omega|simp_all) ((.e rfl (congrArg Value.bool (by first|(simp_all;done)|(simp_all;omega)|(simp;omega)|omega)) (.c rfl .n)):SubM _ _) (ho:=((.c (i:=0) rfl .n):PickO _ _ _)) (.n:SelR _ _ _)
      ·
       refine za rfl rfl<|za rfl rfl<|za rfl rfl<|za rfl rfl<|za rfl rfl<|za rfl rfl<|za rfl rfl<|za rfl rfl<|za rfl rfl<|za rfl rfl<|za rfl rfl<|za rfl rfl<|za rfl rfl<|r_pv rfl rfl (zk rfl rfl)<|r_pv rfl rfl (zb rfl)<|za rfl rfl<|za rfl rfl<|za rfl rfl<|za rfl rfl<|za rfl rfl<|za rfl rfl<|za rfl rfl<|za rfl rfl<|za rfl rfl<|za rfl rfl<|za rfl rfl<|za rfl rfl<|za rfl rfl<|r_pv rfl rfl (zk rfl rfl)<|r_pv rfl rfl (zb rfl)<|za rfl rfl<|za rfl rfl<|za rfl rfl<|za rfl rfl<|za rfl rfl<|za rfl rfl<|za rfl rfl<|za rfl rfl<|za rfl rfl<|r_pv rfl rfl (zk rfl rfl)<|r_pv rfl rfl (zb rfl)<|za rfl rfl<|za rfl rfl<|za rfl rfl<|za rfl rfl<|za rfl rfl<|za rfl rfl<|za rfl rfl<|za rfl rfl<|za rfl rfl<|r_pv rfl rfl (zk rfl rfl)<|r_pv rfl rfl (zb rfl)<|za rfl rfl<|za rfl rfl<|za rfl rfl<|za rfl rfl<|za rfl rfl<|za rfl rfl<|za rfl rfl<|za rfl rfl<|za rfl rfl<|r_pv rfl rfl (zk rfl rfl)<|r_pv rfl rfl (zb rfl)<|za rfl rfl<|za rfl rfl<|za rfl rfl<|za rfl rfl<|za rfl rfl<|za rfl rfl<|r_pv rfl rfl (zk rfl rfl)<|r_pv rfl rfl (zb rfl)<|za rfl rfl<|za rfl rfl<|za rfl rfl<|za rfl rfl<|za rfl rfl<|za rfl rfl<|za rfl rfl<|za rfl rfl<|za rfl rfl<|za rfl rfl<|za rfl rfl<|za rfl rfl<|za rfl rfl<|r_pv rfl rfl (zk rfl rfl)<|r_pv rfl rfl (zb rfl)<|za rfl rfl<|za rfl rfl<|za rfl rfl<|za rfl rfl<|za rfl rfl<|za rfl rfl<|za rfl rfl<|za rfl rfl<|za rfl rfl<|za rfl rfl<|za rfl rfl<|za rfl rfl<|za rfl rfl<|r_pv rfl rfl (zk rfl rfl)<|r_pv rfl rfl (zd rfl)<|zj ?_
       exact zZ () (show True from by first|trivial|omega|simp_all) ((.e rfl (congrArg Value.bool (by first|(simp_all;done)|(simp_all;omega)|(simp;omega)|omega)) (.c rfl .n)):SubM _ _) (ho:=((.c (i:=0) rfl .n):PickO _ _ _)) (.n:SelR _ _ _)
     ·
      refine za rfl rfl<|za rfl rfl<|za rfl rfl<|za rfl rfl<|r_pv rfl rfl (zk rfl rfl)<|r_pv rfl rfl (zb rfl)<|za rfl rfl<|za rfl rfl<|za rfl rfl<|za rfl rfl<|za rfl rfl<|za rfl rfl<|za rfl rfl<|za rfl rfl<|za rfl rfl<|za rfl rfl<|za rfl rfl<|za rfl rfl<|za rfl rfl<|r_pv rfl rfl (zk rfl rfl)<|r_pv rfl rfl (zb rfl)<|za rfl rfl<|za rfl rfl<|za rfl rfl<|za rfl rfl<|za rfl rfl<|za rfl rfl<|za rfl rfl<|za rfl rfl<|za rfl rfl<|za rfl rfl<|za rfl rfl<|za rfl rfl<|za rfl rfl<|r_pv rfl rfl (zk rfl rfl)<|r_pv rfl rfl (zb rfl)<|za rfl rfl<|za rfl rfl<|za rfl rfl<|za rfl rfl<|za rfl rfl<|za rfl rfl<|za rfl rfl<|za rfl rfl<|za rfl rfl<|r_pv rfl rfl (zk rfl rfl)<|r_pv rfl rfl (zb rfl)<|za rfl rfl<|za rfl rfl<|za rfl rfl<|za rfl rfl<|za rfl rfl<|za rfl rfl<|za rfl rfl<|za rfl rfl<|za rfl rfl<|r_pv rfl rfl (zk rfl rfl)<|r_pv rfl rfl (zb rfl)<|za rfl rfl<|za rfl rfl<|za rfl rfl<|za rfl rfl<|za rfl rfl<|za rfl rfl<|za rfl rfl<|za rfl rfl<|za rfl rfl<|r_pv rfl rfl (zk rfl rfl)<|r_pv rfl rfl (zb rfl)<|za rfl rfl<|za rfl rfl<|za rfl rfl<|za rfl rfl<|za rfl rfl<|za rfl rfl<|r_pv rfl rfl (zk rfl rfl)<|r_pv rfl rfl (zb rfl)<|za rfl rfl<|za rfl rfl<|za rfl rfl<|za rfl rfl<|za rfl rfl<|za rfl rfl<|za rfl rfl<|za rfl rfl<|za rfl rfl<|za rfl rfl<|za rfl rfl<|za rfl rfl<|za rfl rfl<|r_pv rfl rfl (zk rfl rfl)<|r_pv rfl rfl (zb rfl)<|za rfl rfl<|za rfl rfl<|za rfl rfl<|za rfl rfl<|za rfl rfl<|za rfl rfl<|za rfl rfl<|za rfl rfl<|za rfl rfl<|za rfl rfl<|za rfl rfl<|za rfl rfl<|za rfl rfl<|r_pv rfl rfl (zk rfl rfl)<|r_pv rfl rfl (zd rfl)<|zj ?_
      exact zZ () (show True from by first|trivial|omega|simp_all) ((.e rfl (congrArg Value.bool (by first|(simp_all;done)|(simp_all;omega)|(simp;omega)|omega)) (.c rfl .n)):SubM _ _) (ho:=((.c (i:=0) rfl .n):PickO _ _ _)) (.n:SelR _ _ _)
    ·
     refine za rfl rfl<|za rfl rfl<|za rfl rfl<|za rfl rfl<|za rfl rfl<|r_pv rfl rfl (zk rfl rfl)<|r_pv rfl rfl (zb rfl)<|za rfl rfl<|za rfl rfl<|za rfl rfl<|za rfl rfl<|r_pv rfl rfl (zk rfl rfl)<|r_pv rfl rfl (zb rfl)<|za rfl rfl<|za rfl rfl<|za rfl rfl<|za rfl rfl<|za rfl rfl<|za rfl rfl<|za rfl rfl<|za rfl rfl<|za rfl rfl<|za rfl rfl<|za rfl rfl<|za rfl rfl<|za rfl rfl<|r_pv rfl rfl (zk rfl rfl)<|r_pv rfl rfl (zb rfl)<|za rfl rfl<|za rfl rfl<|za rfl rfl<|za rfl rfl<|za rfl rfl<|za rfl rfl<|za rfl rfl<|za rfl rfl<|za rfl rfl<|za rfl rfl<|za rfl rfl<|za rfl rfl<|za rfl rfl<|r_pv rfl rfl (zk rfl rfl)<|r_pv rfl rfl (zb rfl)<|za rfl rfl<|za rfl rfl<|za rfl rfl<|za rfl rfl<|za rfl rfl<|za rfl rfl<|za rfl rfl<|za rfl rfl<|za rfl rfl<|r_pv rfl rfl (zk rfl rfl)<|r_pv rfl rfl (zb rfl)<|za rfl rfl<|za rfl rfl<|za rfl rfl<|za rfl rfl<|za rfl rfl<|za rfl rfl<|za rfl rfl<|za rfl rfl<|za rfl rfl<|r_pv rfl rfl (zk rfl rfl)<|r_pv rfl rfl (zb rfl)<|za rfl rfl<|za rfl rfl<|za rfl rfl<|za rfl rfl<|za rfl rfl<|za rfl rfl<|za rfl rfl<|za rfl rfl<|za rfl rfl<|r_pv rfl rfl (zk rfl rfl)<|r_pv rfl rfl (zb rfl)<|za rfl rfl<|za rfl rfl<|za rfl rfl<|za rfl rfl<|za rfl rfl<|za rfl rfl<|r_pv rfl rfl (zk rfl rfl)<|r_pv rfl rfl (zb rfl)<|za rfl rfl<|za rfl rfl<|za rfl rfl<|za rfl rfl<|za rfl rfl<|za rfl rfl<|za rfl rfl<|za rfl rfl<|za rfl rfl<|za rfl rfl<|za rfl rfl<|za rfl rfl<|za rfl rfl<|r_pv rfl rfl (zk rfl rfl)<|r_pv rfl rfl (zb rfl)<|za rfl rfl<|za rfl rfl<|za rfl rfl<|za rfl rfl<|za rfl rfl<|za rfl rfl<|za rfl rfl<|za rfl rfl<|za rfl rfl<|za rfl rfl<|za rfl rfl<|za rfl rfl<|za rfl rfl<|r_pv rfl rfl (zk rfl rfl)<|r_pv rfl rfl (zd rfl)<|zj ?_
     exact zZ () (show True from by first|trivial|omega|simp_all) ((.e rfl (congrArg Value.bool (by first|(simp_all;done)|(simp_all;omega)|(simp;omega)|omega)) (.c rfl .n)):SubM _ _) (ho:=((.c (i:=0) rfl .n):PickO _ _ _)) (.n:SelR _ _ _)
   ·
    refine za rfl rfl<|za rfl rfl<|za rfl rfl<|za rfl rfl<|r_pv rfl rfl (zk rfl rfl)<|r_pv rfl rfl (zb rfl)<|za rfl rfl<|za rfl rfl<|za rfl rfl<|za rfl rfl<|za rfl rfl<|r_pv rfl rfl (zk rfl rfl)<|r_pv rfl rfl (zb rfl)<|za rfl rfl<|za rfl rfl<|za rfl rfl<|za rfl rfl<|r_pv rfl rfl (zk rfl rfl)<|r_pv rfl rfl (zb rfl)<|za rfl rfl<|za rfl rfl<|za rfl rfl<|za rfl rfl<|za rfl rfl<|za rfl rfl<|za rfl rfl<|za rfl rfl<|za rfl rfl<|za rfl rfl<|za rfl rfl<|za rfl rfl<|za rfl rfl<|r_pv rfl rfl (zk rfl rfl)<|r_pv rfl rfl (zb rfl)<|za rfl rfl<|za rfl rfl<|za rfl rfl<|za rfl rfl<|za rfl rfl<|za rfl rfl<|za rfl rfl<|za rfl rfl<|za rfl rfl<|za rfl rfl<|za rfl rfl<|za rfl rfl<|za rfl rfl<|r_pv rfl rfl (zk rfl rfl)<|r_pv rfl rfl (zb rfl)<|za rfl rfl<|za rfl rfl<|za rfl rfl<|za rfl rfl<|za rfl rfl<|za rfl rfl<|za rfl rfl<|za rfl rfl<|za rfl rfl<|r_pv rfl rfl (zk rfl rfl)<|r_pv rfl rfl (zb rfl)<|za rfl rfl<|za rfl rfl<|za rfl rfl<|za rfl rfl<|za rfl rfl<|za rfl rfl<|za rfl rfl<|za rfl rfl<|za rfl rfl<|r_pv rfl rfl (zk rfl rfl)<|r_pv rfl rfl (zb rfl)<|za rfl rfl<|za rfl rfl<|za rfl rfl<|za rfl rfl<|za rfl rfl<|za rfl rfl<|za rfl rfl<|za rfl rfl<|za rfl rfl<|r_pv rfl rfl (zk rfl rfl)<|r_pv rfl rfl (zb rfl)<|za rfl rfl<|za rfl rfl<|za rfl rfl<|za rfl rfl<|za rfl rfl<|za rfl rfl<|r_pv rfl rfl (zk rfl rfl)<|r_pv rfl rfl (zb rfl)<|za rfl rfl<|za rfl rfl<|za rfl rfl<|za rfl rfl<|za rfl rfl<|za rfl rfl<|za rfl rfl<|za rfl rfl<|za rfl rfl<|za rfl rfl<|za rfl rfl<|za rfl rfl<|za rfl rfl<|r_pv rfl rfl (zk rfl rfl)<|r_pv rfl rfl (zb rfl)<|za rfl rfl<|za rfl rfl<|za rfl rfl<|za rfl rfl<|za rfl rfl<|za rfl rfl<|za rfl rfl<|za rfl rfl<|za rfl rfl<|za rfl rfl<|za rfl rfl<|za rfl rfl<|za rfl rfl<|r_pv rfl rfl (zk rfl rfl)<|r_pv rfl rfl (zd rfl)<|zj ?_
    exact zZ () (show True from by first|trivial|omega|simp_all) ((.e rfl (congrArg Value.bool (by first|(simp_all;done)|(simp_all;omega)|(simp;omega)|omega)) (.c rfl .n)):SubM _ _) (ho:=((.c (i:=0) rfl .n):PickO _ _ _)) (.n:SelR _ _ _)
  ·
   refine za rfl rfl<|za rfl rfl<|za rfl rfl<|za rfl rfl<|za rfl rfl<|r_pv rfl rfl (zk rfl rfl)<|r_pv rfl rfl (zb rfl)<|za rfl rfl<|za rfl rfl<|za rfl rfl<|za rfl rfl<|r_pv rfl rfl (zk rfl rfl)<|r_pv rfl rfl (zb rfl)<|za rfl rfl<|za rfl rfl<|za rfl rfl<|za rfl rfl<|za rfl rfl<|r_pv rfl rfl (zk rfl rfl)<|r_pv rfl rfl (zb rfl)<|za rfl rfl<|za rfl rfl<|za rfl rfl<|za rfl rfl<|r_pv rfl rfl (zk rfl rfl)<|r_pv rfl rfl (zb rfl)<|za rfl rfl<|za rfl rfl<|za rfl rfl<|za rfl rfl<|za rfl rfl<|za rfl rfl<|za rfl rfl<|za rfl rfl<|za rfl rfl<|za rfl rfl<|za rfl rfl<|za rfl rfl<|za rfl rfl<|r_pv rfl rfl (zk rfl rfl)<|r_pv rfl rfl (zb rfl)<|za rfl rfl<|za rfl rfl<|za rfl rfl<|za rfl rfl<|za rfl rfl<|za rfl rfl<|za rfl rfl<|za rfl rfl<|za rfl rfl<|za rfl rfl<|za rfl rfl<|za rfl rfl<|za rfl rfl<|r_pv rfl rfl (zk rfl rfl)<|r_pv rfl rfl (zb rfl)<|za rfl rfl<|za rfl rfl<|za rfl rfl<|za rfl rfl<|za rfl rfl<|za rfl rfl<|za rfl rfl<|za rfl rfl<|za rfl rfl<|r_pv rfl rfl (zk rfl rfl)<|r_pv rfl rfl (zb rfl)<|za rfl rfl<|za rfl rfl<|za rfl rfl<|za rfl rfl<|za rfl rfl<|za rfl rfl<|za rfl rfl<|za rfl rfl<|za rfl rfl<|r_pv rfl rfl (zk rfl rfl)<|r_pv rfl rfl (zb rfl)<|za rfl rfl<|za rfl rfl<|za rfl rfl<|za rfl rfl<|za rfl rfl<|za rfl rfl<|za rfl rfl<|za rfl rfl<|za rfl rfl<|r_pv rfl rfl (zk rfl rfl)<|r_pv rfl rfl (zb rfl)<|za rfl rfl<|za rfl rfl<|za rfl rfl<|za rfl rfl<|za rfl rfl<|za rfl rfl<|r_pv rfl rfl (zk rfl rfl)<|r_pv rfl rfl (zb rfl)<|za rfl rfl<|za rfl rfl<|za rfl rfl<|za rfl rfl<|za rfl rfl<|za rfl rfl<|za rfl rfl<|za rfl rfl<|za rfl rfl<|za rfl rfl<|za rfl rfl<|za rfl rfl<|za rfl rfl<|r_pv rfl rfl (zk rfl rfl)<|r_pv rfl rfl (zb rfl)<|za rfl rfl<|za rfl rfl<|za rfl rfl<|za rfl rfl<|za rfl rfl<|za rfl rfl<|za rfl rfl<|za rfl rfl<|za rfl rfl<|za rfl rfl<|za rfl rfl<|za rfl rfl<|za rfl rfl<|r_pv rfl rfl (zk rfl rfl) ?_
   refine r_pv rfl rfl (zd rfl)<|zj ?_
   exact zZ () (show True from by first|trivial|omega|simp_all) ((.e rfl (congrArg Value.bool (by first|(simp_all;done)|(simp_all;omega)|(simp;omega)|omega)) (.c rfl .n)):SubM _ _) (ho:=((.c (i:=0) rfl .n):PickO _ _ _)) (.n:SelR _ _ _)
 ·
  rintro ⟨⟩ -
  try dsimp only
  refine zi<|zi<|zc<|r_pv rfl rfl (zb rfl)<|r_pv rfl rfl (zjb rfl)<|zj<|ze<|zD rfl (fun h14=> ?_) (fun h14=> ?_)
  ·
   refine zi<|zc<|r_pv rfl rfl (zd rfl)<|zj<|ze<|zI<|zt ?_
   exact zC Try.results28 () trivial (zq rfl) (by first|rw [if_pos (by unfold Bl.ok;omega)]|rw [if_neg (by unfold Bl.ok;omega)]) (ho:=(.n:PickO _ _ _)) (.n:SelR _ _ _)
  ·
   refine zA<|ze<|zi<|zc<|r_pv rfl rfl (zd rfl)<|zj<|ze<|zI ?_
   exact zC Try.results28 () trivial (zq rfl) (by first|rw [if_pos (by unfold Bl.ok;omega)]|rw [if_neg (by unfold Bl.ok;omega)]) (ho:=(.n:PickO _ _ _)) (.n:SelR _ _ _)
end Go.Proofs.Ytefbbhiaalcjfaa.Sp
namespace Go.Proofs.Ytefbbhiaalcjfaa.Sp
open Go
set_option linter.unusedVariables false
set_option maxRecDepth 100000
set_option maxHeartbeats 8000000
theorem zTd {ar1:Int} {le1:Int} {tp1:Int} {rt1:Int} {bt1:Int} {sx1:Int} {sy1:Int} {xx1:Int} {xy1:Int} {yy1:Int} {ms1:Int} {mx1:Int} {my1:Int} {ar2:Int} {le2:Int} {tp2:Int} {rt2:Int} {bt2:Int} {sx2:Int} {sy2:Int} {xx2:Int} {xy2:Int} {yy2:Int} {ms2:Int} {mx2:Int} {my2:Int} (hb1:Bl.bd ar1 le1 tp1 rt1 bt1 sx1 sy1 xx1 xy1 yy1 ms1 mx1 my1) (hb2:Bl.bd ar2 le2 tp2 rt2 bt2 sx2 sy2 xx2 xy2 yy2 ms2 mx2 my2):Con Try.prog 40 [.agg #[.int .i64 ar1,.int .i64 le1,.int .i64 tp1,.int .i64 rt1,.int .i64 bt1,.int .i64 sx1,.int .i64 sy1,.int .i64 xx1,.int .i64 xy1,.int .i64 yy1,.int .i64 ms1,.int .i64 mx1,.int .i64 my1],.agg #[.int .i64 ar2,.int .i64 le2,.int .i64 tp2,.int .i64 rt2,.int .i64 bt2,.int .i64 sx2,.int .i64 sy2,.int .i64 xx2,.int .i64 xy2,.int .i64 yy2,.int .i64 ms2,.int .i64 mx2,.int .i64 my2]] [] [] (Y:=Unit) (fun y=>True) (fun y=> .agg #[.int .i64 (ar1+ar2),.int .i64 (min le1 le2),.int .i64 (min tp1 tp2),.int .i64 (max rt1 rt2),.int .i64 (max bt1 bt2),.int .i64 (sx1+sx2),.int .i64 (sy1+sy2),.int .i64 (xx1+xx2),.int .i64 (xy1+xy2),.int .i64 (yy1+yy2),.int .i64 (ms1+ms2),.int .i64 (mx1+mx2),.int .i64 (my1+my2)]) (fun y=>[]) (fun y=>[]):=by
 refine zr Try.func40 rfl rfl rfl (fun c=> ?_)
 show RunC _ _ _ _ _ [(0,.agg #[.int .i64 ar1,.int .i64 le1,.int .i64 tp1,.int .i64 rt1,.int .i64 bt1,.int .i64 sx1,.int .i64 sy1,.int .i64 xx1,.int .i64 xy1,.int .i64 yy1,.int .i64 ms1,.int .i64 mx1,.int .i64 my1]),(1,.agg #[.int .i64 ar2,.int .i64 le2,.int .i64 tp2,.int .i64 rt2,.int .i64 bt2,.int .i64 sx2,.int .i64 sy2,.int .i64 xx2,.int .i64 xy2,.int .i64 yy2,.int .i64 ms2,.int .i64 mx2,.int .i64 my2])] [] []
 unfold Bl.bd at hb1 hb2
 refine zi<|zc<|zS rfl rfl (zX rfl rfl) (fun b1=> ?_)
 refine zS rfl rfl (zX rfl rfl) (fun b2=> ?_)
 refine zS rfl rfl (zG zr51 rfl) (fun b3=> ?_)
 refine zj<|ze<|zi<|zc<|r_pv rfl rfl (zg Try.underlying51 rfl sz3 rfl rfl)<|r_u rfl rfl (zf 2 ty3 rfl rfl rfl)<|r_pv rfl rfl (zg Try.underlying51 rfl sz3 rfl rfl)<|r_u rfl rfl (zf 1 ty3 rfl rfl rfl)<|r_pv rfl rfl (zy (z:=(ar1+ar2)) rfl rfl (w64 (by omega)))<|r_pv rfl rfl (zg Try.underlying51 rfl sz3 rfl rfl)<|r_u rfl rfl (zf 2 ty3 rfl rfl rfl)<|r_pv rfl rfl (zg Try.underlying51 rfl sz3 rfl rfl)<|r_u rfl rfl (zf 1 ty3 rfl rfl rfl)<|r_pv rfl rfl (zhf rfl rfl)<|r_pv rfl rfl (zg Try.underlying51 rfl sz3 rfl rfl)<|r_u rfl rfl (zf 2 ty3 rfl rfl rfl)<|r_pv rfl rfl (zg Try.underlying51 rfl sz3 rfl rfl)<|r_u rfl rfl (zf 1 ty3 rfl rfl rfl)<|r_pv rfl rfl (zhf rfl rfl)<|r_pv rfl rfl (zg Try.underlying51 rfl sz3 rfl rfl)<|r_u rfl rfl (zf 2 ty3 rfl rfl rfl)<|r_pv rfl rfl (zg Try.underlying51 rfl sz3 rfl rfl)<|r_u rfl rfl (zf 1 ty3 rfl rfl rfl)<|r_pv rfl rfl (zzd rfl rfl)<|r_pv rfl rfl (zg Try.underlying51 rfl sz3 rfl rfl)<|r_u rfl rfl (zf 2 ty3 rfl rfl rfl)<|r_pv rfl rfl (zg Try.underlying51 rfl sz3 rfl rfl)<|r_u rfl rfl (zf 1 ty3 rfl rfl rfl)<|r_pv rfl rfl (zzd rfl rfl)<|r_pv rfl rfl (zg Try.underlying51 rfl sz3 rfl rfl)<|r_u rfl rfl (zf 2 ty3 rfl rfl rfl)<|r_pv rfl rfl (zg Try.underlying51 rfl sz3 rfl rfl)<|r_u rfl rfl (zf 1 ty3 rfl rfl rfl)<|r_pv rfl rfl (zy (z:=(sx1+sx2)) rfl rfl (w64 (by omega)))<|r_pv rfl rfl (zg Try.underlying51 rfl sz3 rfl rfl)<|r_u rfl rfl (zf 2 ty3 rfl rfl rfl)<|r_pv rfl rfl (zg Try.underlying51 rfl sz3 rfl rfl)<|r_u rfl rfl (zf 1 ty3 rfl rfl rfl)<|r_pv rfl rfl (zy (z:=(sy1+sy2)) rfl rfl (w64 (by omega)))<|r_pv rfl rfl (zg Try.underlying51 rfl sz3 rfl rfl)<|r_u rfl rfl (zf 2 ty3 rfl rfl rfl)<|r_pv rfl rfl (zg Try.underlying51 rfl sz3 rfl rfl)<|r_u rfl rfl (zf 1 ty3 rfl rfl rfl)<|r_pv rfl rfl (zy (z:=(xx1+xx2)) rfl rfl (w64 (by omega)))<|r_pv rfl rfl (zg Try.underlying51 rfl sz3 rfl rfl)<|r_u rfl rfl (zf 2 ty3 rfl rfl rfl)<|r_pv rfl rfl (zg Try.underlying51 rfl sz3 rfl rfl)<|r_u rfl rfl (zf 1 ty3 rfl rfl rfl)<|r_pv rfl rfl (zy (z:=(xy1+xy2)) rfl rfl (w64 (by omega)))<|r_pv rfl rfl (zg Try.underlying51 rfl sz3 rfl rfl)<|r_u rfl rfl (zf 2 ty3 rfl rfl rfl)<|r_pv rfl rfl (zg Try.underlying51 rfl sz3 rfl rfl)<|r_u rfl rfl (zf 1 ty3 rfl rfl rfl)<|r_pv rfl rfl (zy (z:=(yy1+yy2)) rfl rfl (w64 (by omega)))<|r_pv rfl rfl (zg Try.underlying51 rfl sz3 rfl rfl)<|r_u rfl rfl (zf 2 ty3 rfl rfl rfl) ?_
 refine r_pv rfl rfl (zg Try.underlying51 rfl sz3 rfl rfl)<|r_u rfl rfl (zf 1 ty3 rfl rfl rfl)<|r_pv rfl rfl (zy (z:=(ms1+ms2)) rfl rfl (w64 (by omega)))<|r_pv rfl rfl (zg Try.underlying51 rfl sz3 rfl rfl)<|r_u rfl rfl (zf 2 ty3 rfl rfl rfl)<|r_pv rfl rfl (zg Try.underlying51 rfl sz3 rfl rfl)<|r_u rfl rfl (zf 1 ty3 rfl rfl rfl)<|r_pv rfl rfl (zy (z:=(mx1+mx2)) rfl rfl (w64 (by omega)))<|r_pv rfl rfl (zg Try.underlying51 rfl sz3 rfl rfl)<|r_u rfl rfl (zf 2 ty3 rfl rfl rfl)<|r_pv rfl rfl (zg Try.underlying51 rfl sz3 rfl rfl)<|r_u rfl rfl (zf 1 ty3 rfl rfl rfl)<|r_pv rfl rfl (zy (z:=(my1+my2)) rfl rfl (w64 (by omega)))<|r_pv rfl rfl (zK zr51 rfl Try.underlying51 (.c sz3 (.c sz3 (.c sz3 (.c sz3 (.c sz3 (.c sz3 (.c sz3 (.c sz3 (.c sz3 (.c sz3 (.c sz3 (.c sz3 (.c sz3 .n))))))))))))) (.c rfl (.c rfl (.c rfl (.c rfl (.c rfl (.c rfl (.c rfl (.c rfl (.c rfl (.c rfl (.c rfl (.c rfl (.c rfl .n))))))))))))) (.c rfl rfl rfl (.take .nil) (.c rfl rfl rfl (.skip (.take .nil)) (.c rfl rfl rfl (.skip (.skip (.take .nil))) (.c rfl rfl rfl (.skip (.skip (.skip (.take .nil)))) (.c rfl rfl rfl (.skip (.skip (.skip (.skip (.take .nil))))) (.c rfl rfl rfl (.skip (.skip (.skip (.skip (.skip (.take .nil)))))) (.c rfl rfl rfl (.skip (.skip (.skip (.skip (.skip (.skip (.take .nil))))))) (.c rfl rfl rfl (.skip (.skip (.skip (.skip (.skip (.skip (.skip (.take .nil)))))))) (.c rfl rfl rfl (.skip (.skip (.skip (.skip (.skip (.skip (.skip (.skip (.take .nil))))))))) (.c rfl rfl rfl (.skip (.skip (.skip (.skip (.skip (.skip (.skip (.skip (.skip (.take .nil)))))))))) (.c rfl rfl rfl (.skip (.skip (.skip (.skip (.skip (.skip (.skip (.skip (.skip (.skip (.take .nil))))))))))) (.c rfl rfl rfl (.skip (.skip (.skip (.skip (.skip (.skip (.skip (.skip (.skip (.skip (.skip (.take .nil)))))))))))) (.c rfl rfl rfl (.skip (.skip (.skip (.skip (.skip (.skip (.skip (.skip (.skip (.skip (.skip (.skip (.take .nil))))))))))))) .n))))))))))))))<|zo 0 rfl rfl rfl rfl rfl sz51 rfl (.take (.take (.take (.take (.take (.take (.take (.take (.take (.take (.take (.take (.take .nil))))))))))))) .z<|zj<|ze<|zI ?_
 exact zC Try.results40 () trivial (zu 0 ty51 rfl rfl (.take (.take (.take (.take (.take (.take (.take (.take (.take (.take (.take (.take (.take .nil)))))))))))))) rfl (ho:=(.n:PickO _ _ _)) (.n:SelR _ _ _)
end Go.Proofs.Ytefbbhiaalcjfaa.Sp
namespace Go.Proofs.Ytefbbhiaalcjfaa.Sp
open Go
set_option linter.unusedVariables false
set_option maxRecDepth 100000
set_option maxHeartbeats 8000000
theorem zQb {g:Int} {th:Int} {tb:Nat}:Con Try.prog 57 [.int .i64 g,.pointer (some ⟨tb,0,none⟩)] [] [atF tb 0 [.int .i64 th]] (Y:=Unit) (fun y=>True) (fun y=> .bool (decide (th≤g))) (fun y=>[]) (fun y=>[]):=by
 refine zr Try.func57 rfl rfl rfl (fun c=> ?_)
 show RunC _ _ _ _ _ [(0,.int .i64 g),(1,.pointer (some ⟨tb,0,none⟩))] [] [atF tb 0 [.int .i64 th]]
 refine zi<|zc<|r_pv rfl rfl (zd rfl)<|zj<|ze<|zi<|zc<|r_pv rfl rfl (zb rfl)<|r_u rfl rfl (zl (j:=0) 0 ty3 rfl rfl rfl rfl)<|r_pv rfl rfl (zya rfl rfl)<|r_pv rfl rfl (zd rfl)<|zj<|ze<|zI ?_
 exact zC Try.results57 () trivial (zq rfl) rfl (ho:=(.n:PickO _ _ _)) (.n:SelR _ _ _)
theorem zuc {g:Int} {th:Int} {tb:Nat}:Con Try.prog 37 [.int .i64 g,.pointer (some ⟨tb,0,none⟩)] [] [atF tb 0 [.int .i64 th]] (Y:=Unit) (fun y=>True) (fun y=> .bool (decide (g<th))) (fun y=>[]) (fun y=>[]):=by
 refine zr Try.func37 rfl rfl rfl (fun c=> ?_)
 show RunC _ _ _ _ _ [(0,.int .i64 g),(1,.pointer (some ⟨tb,0,none⟩))] [] [atF tb 0 [.int .i64 th]]
 refine zi<|zc<|r_pv rfl rfl (zd rfl)<|zj<|ze<|zi<|zc<|r_pv rfl rfl (zb rfl)<|r_u rfl rfl (zl (j:=0) 0 ty3 rfl rfl rfl rfl)<|r_pv rfl rfl (zW rfl rfl)<|r_pv rfl rfl (zd rfl)<|zj<|ze<|zI ?_
 exact zC Try.results37 () trivial (zq rfl) rfl (ho:=(.n:PickO _ _ _)) (.n:SelR _ _ _)
end Go.Proofs.Ytefbbhiaalcjfaa.Sp
namespace Go.Proofs.Ytefbbhiaalcjfaa.Sp
open Go
set_option linter.unusedVariables false
set_option maxRecDepth 100000
set_option maxHeartbeats 8000000
theorem zWe:Con Try.prog 58 [] [] [] (Y:=(Option Addr)×Nat) (fun y=>True) (fun y=> .slice (y.1) 4 (y.2)) (fun y=>[]) (fun y=>[slF (rI2 .i64) (y.1) (y.2) ([((1:Int),(0:Int)),(-1,0),(0,1),(0,-1)])]):=by
 refine zr Try.func58 rfl rfl rfl (fun c=> ?_)
 show RunC _ _ _ _ _ [] [] []
 refine zi<|zc<|r_pv rfl rfl (zd rfl)<|zj<|ze<|zi<|zc<|r_pv rfl rfl (zka zr90 rfl Try.underlying90 sz3 (.c rfl (.c rfl .n)) (.c rfl rfl rfl (.take .nil) (.c rfl rfl rfl (.skip (.take .nil)) .n)))<|r_pv rfl rfl (zka zr90 rfl Try.underlying90 sz3 (.c rfl (.c rfl .n)) (.c rfl rfl rfl (.take .nil) (.c rfl rfl rfl (.skip (.take .nil)) .n)))<|r_pv rfl rfl (zka zr90 rfl Try.underlying90 sz3 (.c rfl (.c rfl .n)) (.c rfl rfl rfl (.take .nil) (.c rfl rfl rfl (.skip (.take .nil)) .n)))<|r_pv rfl rfl (zka zr90 rfl Try.underlying90 sz3 (.c rfl (.c rfl .n)) (.c rfl rfl rfl (.take .nil) (.c rfl rfl rfl (.skip (.take .nil)) .n)))<|zta rfl rfl (zE (enc:=fun z:Int×Int=>[.int .i64 z.1,.int .i64 z.2]) (ok:=fun z=>InK .i64 z.1∧InK .i64 z.2) (h1:=fun _=>rfl) (h2:=fun _=>rfl) (k:=4) Try.underlying75 inf90 rfl (by decide) (by decide) (by decide) (.c (x:=(1,0)) rfl rfl (fun _ _=>by exact ⟨zn.2 (by first|omega|decide|(dsimp only;omega)),zn.2 (by first|omega|decide|(dsimp only;omega))⟩) (.c (x:=((-1),0)) rfl rfl (fun _ _=>by exact ⟨zn.2 (by first|omega|decide|(dsimp only;omega)),zn.2 (by first|omega|decide|(dsimp only;omega))⟩) (.c (x:=(0,1)) rfl rfl (fun _ _=>by exact ⟨zn.2 (by first|omega|decide|(dsimp only;omega)),zn.2 (by first|omega|decide|(dsimp only;omega))⟩) (.c (x:=(0,(-1))) rfl rfl (fun _ _=>by exact ⟨zn.2 (by first|omega|decide|(dsimp only;omega)),zn.2 (by first|omega|decide|(dsimp only;omega))⟩) .n))))) (fun b1 _=> ?_)
 refine r_pv rfl rfl (zd rfl)<|zj<|ze<|zI<|zPa 0 rfl .z ?_
 exact zC Try.results58 (some ⟨b1,0,none⟩,4) trivial (zq rfl) rfl (ho:=(.n:PickO _ _ _)) ((.c (j:=0) rfl .n):SelR _ _ _)
end Go.Proofs.Ytefbbhiaalcjfaa.Sp
namespace Go.Proofs.Ytefbbhiaalcjfaa.Sp
open Go
set_option linter.unusedVariables false
set_option maxRecDepth 100000
set_option maxHeartbeats 8000000
theorem zte:Con Try.prog 58 [] [] [] (Y:=(Option Addr)×Nat) (fun y=>True) (fun y=> .slice (y.1) 4 (y.2)) (fun y=>[rowA 90 (rI2 .i64) (y.1) (y.2) ([((1:Int),(0:Int)),(-1,0),(0,1),(0,-1)])]) (fun y=>[]):=by
 refine zr Try.func58 rfl rfl rfl (fun c=> ?_)
 show RunC _ _ _ _ _ [] [] []
 refine zi<|zc<|r_pv rfl rfl (zd rfl)<|zj<|ze<|zi<|zc<|r_pv rfl rfl (zka zr90 rfl Try.underlying90 sz3 (.c rfl (.c rfl .n)) (.c rfl rfl rfl (.take .nil) (.c rfl rfl rfl (.skip (.take .nil)) .n)))<|r_pv rfl rfl (zka zr90 rfl Try.underlying90 sz3 (.c rfl (.c rfl .n)) (.c rfl rfl rfl (.take .nil) (.c rfl rfl rfl (.skip (.take .nil)) .n)))<|r_pv rfl rfl (zka zr90 rfl Try.underlying90 sz3 (.c rfl (.c rfl .n)) (.c rfl rfl rfl (.take .nil) (.c rfl rfl rfl (.skip (.take .nil)) .n)))<|r_pv rfl rfl (zka zr90 rfl Try.underlying90 sz3 (.c rfl (.c rfl .n)) (.c rfl rfl rfl (.take .nil) (.c rfl rfl rfl (.skip (.take .nil)) .n)))<|zta rfl rfl (zE (enc:=fun z:Int×Int=>[.int .i64 z.1,.int .i64 z.2]) (ok:=fun z=>InK .i64 z.1∧InK .i64 z.2) (h1:=fun _=>rfl) (h2:=fun _=>rfl) (k:=4) Try.underlying75 inf90 rfl (by decide) (by decide) (by decide) (.c (x:=(1,0)) rfl rfl (fun _ _=>by exact ⟨zn.2 (by first|omega|decide|(dsimp only;omega)),zn.2 (by first|omega|decide|(dsimp only;omega))⟩) (.c (x:=((-1),0)) rfl rfl (fun _ _=>by exact ⟨zn.2 (by first|omega|decide|(dsimp only;omega)),zn.2 (by first|omega|decide|(dsimp only;omega))⟩) (.c (x:=(0,1)) rfl rfl (fun _ _=>by exact ⟨zn.2 (by first|omega|decide|(dsimp only;omega)),zn.2 (by first|omega|decide|(dsimp only;omega))⟩) (.c (x:=(0,(-1))) rfl rfl (fun _ _=>by exact ⟨zn.2 (by first|omega|decide|(dsimp only;omega)),zn.2 (by first|omega|decide|(dsimp only;omega))⟩) .n))))) (fun b1 _=> ?_)
 refine r_pv rfl rfl (zd rfl)<|zj<|ze<|zI ?_
 exact zC Try.results58 (some ⟨b1,0,none⟩,4) trivial (zq rfl) rfl (ho:=((.c (i:=0) rfl .n):PickO _ _ _)) (.n:SelR _ _ _)
theorem zue:Con Try.prog 38 [] [] [] (Y:=(Option Addr)×Nat) (fun y=>True) (fun y=> .slice (y.1) 8 (y.2)) (fun y=>[]) (fun y=>[slF (rI2 .i64) (y.1) (y.2) ([((1:Int),(0:Int)),(-1,0),(0,1),(0,-1)]++[(1,1),(-1,1),(1,-1),(-1,-1)])]):=by
 refine zr Try.func38 rfl rfl rfl (fun c=> ?_)
 show RunC _ _ _ _ _ [] [] []
 refine zi<|zc<|r_pv rfl rfl (zd rfl)<|zj<|ze<|zi<|zc<|zB rfl rfl (.n) ce58 (zte) (.n) ?_
 rintro ⟨p31,c32⟩ -
 dsimp only [List.append_eq,List.nil_append,List.cons_append]
 refine r_pv rfl rfl (zka zr90 rfl Try.underlying90 sz3 (.c rfl (.c rfl .n)) (.c rfl rfl rfl (.take .nil) (.c rfl rfl rfl (.skip (.take .nil)) .n)))<|r_pv rfl rfl (zka zr90 rfl Try.underlying90 sz3 (.c rfl (.c rfl .n)) (.c rfl rfl rfl (.take .nil) (.c rfl rfl rfl (.skip (.take .nil)) .n)))<|r_pv rfl rfl (zka zr90 rfl Try.underlying90 sz3 (.c rfl (.c rfl .n)) (.c rfl rfl rfl (.take .nil) (.c rfl rfl rfl (.skip (.take .nil)) .n)))<|r_pv rfl rfl (zka zr90 rfl Try.underlying90 sz3 (.c rfl (.c rfl .n)) (.c rfl rfl rfl (.take .nil) (.c rfl rfl rfl (.skip (.take .nil)) .n)))<|zta rfl rfl (zE (enc:=fun z:Int×Int=>[.int .i64 z.1,.int .i64 z.2]) (ok:=fun z=>InK .i64 z.1∧InK .i64 z.2) (h1:=fun _=>rfl) (h2:=fun _=>rfl) (k:=4) Try.underlying75 inf90 rfl (by decide) (by decide) (by decide) (.c (x:=(1,1)) rfl rfl (fun _ _=>by exact ⟨zn.2 (by first|omega|decide|(dsimp only;omega)),zn.2 (by first|omega|decide|(dsimp only;omega))⟩) (.c (x:=((-1),1)) rfl rfl (fun _ _=>by exact ⟨zn.2 (by first|omega|decide|(dsimp only;omega)),zn.2 (by first|omega|decide|(dsimp only;omega))⟩) (.c (x:=(1,(-1))) rfl rfl (fun _ _=>by exact ⟨zn.2 (by first|omega|decide|(dsimp only;omega)),zn.2 (by first|omega|decide|(dsimp only;omega))⟩) (.c (x:=((-1),(-1))) rfl rfl (fun _ _=>by exact ⟨zn.2 (by first|omega|decide|(dsimp only;omega)),zn.2 (by first|omega|decide|(dsimp only;omega))⟩) .n))))) (fun b3 _=> ?_)
 refine zea 0 rfl .z<|zxa 1 rfl rfl rfl (zra 0 rfl Try.underlying75 inf90 (by decide) rfl rfl (by first|rfl|assumption|(simp_all;done)|omega) rfl (by first|rfl|assumption|(simp_all;done)|omega) (by omega) (by omega)) (fun _=>(.s .z)) ?_
 rintro ⟨p4,c5⟩ -
 dsimp only [List.append_eq,List.nil_append,List.cons_append]
 refine r_pv rfl rfl (zd rfl)<|zj<|ze<|zI<|zPa 1 rfl (.s .z) ?_
 exact zC Try.results38 (p4,c5) trivial (zq rfl) rfl (ho:=(.n:PickO _ _ _)) ((.c (j:=0) rfl .n):SelR _ _ _)
end Go.Proofs.Ytefbbhiaalcjfaa.Sp
namespace Go.Proofs.Ytefbbhiaalcjfaa.Sp
open Go
set_option linter.unusedVariables false
set_option maxRecDepth 100000
set_option maxHeartbeats 8000000
theorem zve {p1:Option Addr} {n1:Nat} {c1:Nat} {l1:List Int} {p2:Option Addr} {n2:Nat} {c2:Nat} {l2:List Int} (hn1:l1.length=n1) (hn2:l2.length=n2):Con Try.prog 13 [.slice p1 n1 c1,.slice p2 n2 c2] [] [slF (rI .i64) p1 c1 l1,slF (rI .i64) p2 c2 l2] (Y:=Unit) (fun y=>True) (fun y=> .bool (decide (l1=l2))) (fun y=>[]) (fun y=>[]):=by
 refine zr Try.func13 rfl rfl rfl (fun c=> ?_)
 show RunC _ _ _ _ _ [(0,.slice p1 n1 c1),(1,.slice p2 n2 c2)] [] [slF (rI .i64) p1 c1 l1,slF (rI .i64) p2 c2 l2]
 refine zca 0 rfl (fun hL0=> ?_)
 refine zca 1 rfl (fun hL1=> ?_)
 refine zi<|zc<|r_pv rfl rfl (zd rfl)<|zj<|ze<|zi<|zi<|zc<|r_pv rfl rfl (zb rfl)<|r_pv rfl rfl (zM Try.underlying22 rfl)<|r_pv rfl rfl (zb rfl)<|r_pv rfl rfl (zM Try.underlying22 rfl)<|r_pv rfl rfl (zIa rfl rfl)<|zj<|ze<|zD rfl (fun hlen=> ?_) (fun hlen=> ?_)
 ·
  refine zi<|zc<|r_pv rfl rfl (zd rfl)<|zj<|ze<|zI<|zt ?_
  exact zC Try.results13 () trivial (zq rfl) (congrArg Value.bool (decide_eq_false (fun h=>hlen (by rw [← hn1,←hn2,h])))) (ho:=(.n:PickO _ _ _)) (.n:SelR _ _ _)
 ·
  refine zA<|ze<|zi<|zi<|zc<|r_pv rfl rfl (zb rfl)<|r_pv rfl rfl (zM Try.underlying22 rfl)<|r_pv rfl rfl (zb rfl)<|zj<|ze<|zz<|zma (X:=Nat) (fun x:Nat=>x≤n1∧∀j,j<x→l1.getD j 0=l2.getD j 0) (fun x=>[(13,.int .i64 ((x:Nat):Int)),(12,.int .i64 ((n1:Nat):Int)),(0,.slice p1 n1 c1),(1,.slice p2 n2 c2)]) (fun x=>[]) (fun x=>[slF (rI .i64) p1 c1 l1,slF (rI .i64) p2 c2 l2]) (fun x:Nat=>n1 - x) 0 (show 0≤n1∧∀j,j<0→l1.getD j 0=l2.getD j 0 from by exact ⟨by omega,fun j h=>by omega⟩) ((.e rfl (by first|rfl|(congr 1;omega)|simp_all) (.of rfl)):SubM _ _) (ho:=(.n:PickO _ _ _)) ((.of [0,1] rfl):SelR _ _ _) ?_
  rintro i hI
  replace hI:i≤n1∧∀j,j<i→l1.getD j 0=l2.getD j 0:=hI
  try dsimp only
  obtain ⟨hi,hall⟩:=hI
  refine zi<|zc<|r_pv rfl rfl (zW rfl rfl)<|zj<|ze<|zi<|zD rfl (fun h1=> ?_) (fun h1=> ?_)
  ·
   refine zA<|ze<|zi<|zz<|zi<|zc<|r_pv rfl rfl (zb rfl)<|r_pv rfl rfl (zd rfl)<|zj<|ze<|zi<|zja (OW:=[]) (O:=[]) 100000 mixed (.then (.block (.then (.then (.block (.then .ret)))))) (by kernel_rfl)<|d_pv 0 rfl rfl (by kernel_rfl) (by kernel_rfl) rfl rfl (zb rfl)<|d_pv 1 rfl rfl (by kernel_rfl) (by kernel_rfl) rfl rfl (zb rfl)<|zoa (x0:=(l1.getD i 0)) 2 rfl rfl (by kernel_rfl) (by kernel_rfl) 0 i rfl Try.underlying22 sz3 rfl rfl rfl (by first|rfl|assumption|(simp_all;done)|omega) rfl rfl (gD (d:=0) (by omega)) (fun b2 o3 hok4=> ?_)
   replace hok4:=zn.1 hok4
   refine d_u 3 rfl rfl (by kernel_rfl) (by kernel_rfl) rfl rfl (zl (j:=0) 0 ty3 rfl rfl rfl rfl)<|d_pv 4 rfl rfl (by kernel_rfl) (by kernel_rfl) rfl rfl (zb rfl)<|d_pv 5 rfl rfl (by kernel_rfl) (by kernel_rfl) rfl rfl (zb rfl)<|zoa (x0:=(l2.getD i 0)) 6 rfl rfl (by kernel_rfl) (by kernel_rfl) 2 i rfl Try.underlying22 sz3 rfl rfl rfl (by first|rfl|assumption|(simp_all;done)|omega) rfl rfl (gD (d:=0) (by omega)) (fun b5 o6 hok7=> ?_)
   replace hok7:=zn.1 hok7
   refine d_u 7 rfl rfl (by kernel_rfl) (by kernel_rfl) rfl rfl (zl (j:=0) 0 ty3 rfl rfl rfl rfl)<|d_pv 8 rfl rfl (by kernel_rfl) (by kernel_rfl) rfl rfl (zIa rfl rfl)<|zga (by kernel_rfl)<|ze<|zD rfl (fun hd=> ?_) (fun hd=> ?_)
   ·
    refine zi<|zc<|r_pv rfl rfl (zd rfl)<|zj<|ze<|zI<|zaa<|zt<|zt<|zaa<|zt ?_
    exact zC Try.results13 () trivial (zq rfl) (congrArg Value.bool (decide_eq_false (fun h=>hd (by simp [h])))) (ho:=(.n:PickO _ _ _)) (.n:SelR _ _ _)
   ·
    refine zA<|zJ<|ze<|zc<|r_pv rfl rfl (zy (z:=(((i+1):Nat):Int)) rfl rfl (w64 (by omega)))<|r_pv rfl rfl (zb rfl)<|zj<|zba (i+1) (show (i+1)≤n1∧∀j,j<(i+1)→l1.getD j 0=l2.getD j 0 from by refine ⟨by omega,fun j hj=> ?_⟩;by_cases e:j=i;rw [e];exact Decidable.not_not.1 hd;exact hall j (by omega)) (by show n1 - (i+1)<n1 - i;omega) ((.of rfl):SubM _ _) (ho:=(.n:PickO _ _ _)) ((.of [2,3] rfl):SelR _ _ _)
  ·
   refine zfa<|zm<|zm<|zv<|ze<|zi<|zc<|r_pv rfl rfl (zd rfl)<|zj<|ze<|zI ?_
   exact zC Try.results13 () trivial (zq rfl) (congrArg Value.bool (decide_eq_true (Big.ext_getD (by omega) (fun j hj=>hall j (by omega))))) (ho:=(.n:PickO _ _ _)) (.n:SelR _ _ _)
end Go.Proofs.Ytefbbhiaalcjfaa.Sp
namespace Go.Proofs.Ytefbbhiaalcjfaa.Fl
inductive Conn (inn:Nat→Prop) (adj:Nat→Nat→Prop):Nat→Nat→Prop
  |refl (i:Nat):Conn inn adj i i
  |step {i j k:Nat}:inn i→inn j→adj i j→Conn inn adj j k→Conn inn adj i k
section
variable {n : Nat} {inn : Nat → Prop} {adj : Nat → Nat → Prop}
theorem Conn.trans {i j k:Nat} (h:Conn inn adj i j) (h2:Conn inn adj j k):Conn inn adj i k:=by
  induction h with
  |refl=>exact h2
  |step a b c _ ih=>exact .step a b c (ih h2)
theorem Conn.one {i j:Nat} (hi:inn i) (hj:inn j) (h:adj i j):Conn inn adj i j:= .step hi hj h (.refl j)
theorem Conn.symm (hs:∀i j,adj i j→adj j i) {i j:Nat} (h:Conn inn adj i j):Conn inn adj j i:=by
  induction h with
  |refl=>exact .refl _
  |step a b c _ ih=>exact ih.trans (Conn.one b a (hs _ _ c))
theorem Conn.mem {i j:Nat} (h:Conn inn adj i j) (hi:inn i):inn j:=by
  induction h with
  |refl=>exact hi
  |step _ b _ _ ih=>exact ih b
structure Lst (inn:Nat→Prop) (adj:Nat→Nat→Prop) (c:Nat→Nat):Prop where
  le:∀i,inn i→c i≤i
  conn:∀i,inn i→Conn inn adj i (c i)
  same:∀i k,inn i→inn k→adj i k→c i=c k
theorem Lst.const {c:Nat→Nat} (h:Lst inn adj c) {i j:Nat} (hc:Conn inn adj i j):c i=c j:=by
  induction hc with
  |refl=>rfl
  |step a b d _ ih=>rw [h.same _ _ a b d,ih]
theorem Lst.least {c:Nat→Nat} (h:Lst inn adj c) {i j:Nat} (hi:inn i) (hc:Conn inn adj i j):c i≤j:=by
  rw [h.const hc];exact h.le _ (hc.mem hi)
theorem Lst.idem {c:Nat→Nat} (h:Lst inn adj c) {i:Nat} (hi:inn i):c (c i)=c i:=(h.const (h.conn i hi)).symm
theorem Lst.mem {c:Nat→Nat} (h:Lst inn adj c) {i:Nat} (hi:inn i):inn (c i):=(h.conn i hi).mem hi
theorem Lst.uniq {c d:Nat→Nat} (h:Lst inn adj c) (k:Lst inn adj d) {i:Nat} (hi:inn i):c i=d i:=
  Nat.le_antisymm (h.least hi (k.conn i hi)) (k.least hi (h.conn i hi))
theorem Lst.iff {c:Nat→Nat} (h:Lst inn adj c) (hs:∀i j,adj i j→adj j i) {i j:Nat} (hi:inn i) (hj:inn j):c i=c j↔Conn inn adj i j:=
  ⟨fun e=>(h.conn i hi).trans (e ▸ (h.conn j hj).symm hs),h.const⟩
theorem Lst.exists (hs:∀i j,adj i j→adj j i):∃c,Lst inn adj c:=by
  have key:∀i,∃m,Conn inn adj i m∧∀j,Conn inn adj i j→m≤j:=fun i=>by
    have:∀b,∀m,m≤b→Conn inn adj i m→∃m,Conn inn adj i m∧∀j,Conn inn adj i j→m≤j:=fun b=>by
      induction b with
      |zero=>intro m hm hc;exact ⟨m,hc,fun j _=>by omega⟩
      |succ b ih=>
        intro m hm hc
        by_cases hx:∃j,Conn inn adj i j∧j<m
        · obtain ⟨j,hj,hlt⟩:=hx;exact ih j (by omega) hj
        · exact ⟨m,hc,fun j hj=>Nat.le_of_not_lt fun hlt=>hx ⟨j,hj,hlt⟩⟩
    exact this i i (Nat.le_refl _) (.refl i)
  refine ⟨fun i=>Classical.choose (key i),fun i _=>(Classical.choose_spec (key i)).2 i (.refl i),fun i _=>(Classical.choose_spec (key i)).1,fun i k hi hk ha=> ?_⟩
  have h1:=Classical.choose_spec (key i)
  have h2:=Classical.choose_spec (key k)
  exact Nat.le_antisymm (h1.2 _ ((Conn.one hi hk ha).trans h2.1)) (h2.2 _ ((Conn.one hk hi (hs _ _ ha)).trans h1.1))
end
def cnt (q:Nat→Bool) (i:Nat):Nat:=((List.range i).filter q).length
theorem cnt_succ (q:Nat→Bool) (i:Nat):cnt q (i+1)=cnt q i+if q i then 1 else 0:=by
  unfold cnt;rw [List.range_succ,List.filter_append,List.length_append]
  by_cases h:q i=true
  · simp [h]
  · simp [h]
theorem cnt_mono (q:Nat→Bool) {i j:Nat} (h:i≤j):cnt q i≤cnt q j:=by
  induction h with
  |refl=>exact Nat.le_refl _
  |step _ ih=>rw [cnt_succ];omega
theorem cnt_lt (q:Nat→Bool) {i j:Nat} (h:i<j) (hq:q i=true):cnt q i<cnt q j:=by
  have:=cnt_mono q (show i+1≤j from h);rw [cnt_succ,if_pos hq] at this;omega
theorem cnt_le (q:Nat→Bool) (i:Nat):cnt q i≤i:=by
  induction i with
  |zero=>exact Nat.le_refl _
  |succ i ih=>rw [cnt_succ];split <;> omega
section
variable {n : Nat} {f : Nat → Bool} {adj : Nat → Nat → Prop} {c : Nat → Nat}
def ldr (f:Nat→Bool) (c:Nat→Nat) (j:Nat):Bool:=f j&&decide (c j=j)
structure OutI (n:Nat) (f:Nat→Bool) (c:Nat→Nat) (i:Nat) (o:List Int):Prop where
  len:o.length=n
  old:∀j,j<n→f j=true→c j<i→o.getD j 0=(cnt (ldr f c) (c j):Int)
  new:∀j,j<n→¬(f j=true∧c j<i)→o.getD j 0= -1
structure Fld (n:Nat) (f:Nat→Bool) (adj:Nat→Nat→Prop) (c:Nat→Nat) (i:Nat) (o:List Int) (st:List Nat):Prop where
  len:o.length=n
  old:∀j,j<n→f j=true→c j<i→o.getD j 0=(cnt (ldr f c) (c j):Int)
  new:∀j,j<n→¬(f j=true∧c j<i)→o.getD j 0= -1∨(o.getD j 0=(cnt (ldr f c) i:Int)∧f j=true∧c j=i)
  self:o.getD i 0=(cnt (ldr f c) i:Int)
  stk:∀j,j∈st→j<n∧o.getD j 0=(cnt (ldr f c) i:Int)∧f j=true∧c j=i
  cls:∀j,j<n→f j=true→c j=i→o.getD j 0=(cnt (ldr f c) i:Int)→j∈st∨∀k,k<n→f k=true→adj j k→o.getD k 0=(cnt (ldr f c) i:Int)
theorem Fld.fin {i:Nat} {o:List Int} (hc:Lst (fun j=>f j=true) adj c) (hs:∀i j,adj i j→adj j i) (hb:∀j k,adj j k→k<n) (hi:i<n) (hf:f i=true) (h:Fld n f adj c i o []):OutI n f c (i+1) o:=by
  have walk:∀j k,Conn (fun j=>f j=true) adj j k→j<n→f j=true→c j=i→o.getD j 0=(cnt (ldr f c) i:Int)→o.getD k 0=(cnt (ldr f c) i:Int):=by
    intro j k hjk
    induction hjk with
    |refl=>intro _ _ _ h;exact h
    |step a b d e ih=>
      intro hj hfj hcj ho
      rcases h.cls _ hj hfj hcj ho with hm|hm
      · cases hm
      · exact ih (hb _ _ d) b (by rw [← hcj];exact (hc.same _ _ a b d).symm) (hm _ (hb _ _ d) b d)
  refine ⟨h.len,fun j hj hfj hlt=> ?_,fun j hj hn=> ?_⟩
  · by_cases e : c j < i
    · exact h.old j hj hfj e
    · have e2 : c j = i := by omega
      rw [e2]
      have hcon:=(hc.conn j hfj).symm hs
      rw [e2] at hcon
      exact walk i j hcon hi hf (by rw [← e2];exact hc.idem hfj) h.self
  · rcases h.new j hj (fun k => hn ⟨k.1, by omega⟩) with e | e
    · exact e
    · exact absurd ⟨e.2.1,by omega⟩ hn
structure FlP (n:Nat) (f:Nat→Bool) (adj:Nat→Nat→Prop) (c:Nat→Nat) (i:Nat) (o:List Int) (st:List Nat) (p:Nat) (D:Nat→Prop):Prop where
  len:o.length=n
  old:∀j,j<n→f j=true→c j<i→o.getD j 0=(cnt (ldr f c) (c j):Int)
  new:∀j,j<n→¬(f j=true∧c j<i)→o.getD j 0= -1∨(o.getD j 0=(cnt (ldr f c) i:Int)∧f j=true∧c j=i)
  self:o.getD i 0=(cnt (ldr f c) i:Int)
  stk:∀j,j∈st→j<n∧o.getD j 0=(cnt (ldr f c) i:Int)∧f j=true∧c j=i
  pop:p<n∧f p=true∧c p=i
  cls:∀j,j<n→f j=true→c j=i→o.getD j 0=(cnt (ldr f c) i:Int)→j∈st∨∀k,k<n→f k=true→adj j k→(j=p→D k)→o.getD k 0=(cnt (ldr f c) i:Int)
theorem Fld.pop {i p:Nat} {o:List Int} {st:List Nat} (h:Fld n f adj c i o (st++[p])):FlP n f adj c i o st p (fun _=>False):=by
  have hp:=h.stk p (by simp)
  refine ⟨h.len,h.old,h.new,h.self,fun j hj=>h.stk j (by simp [hj]),⟨hp.1,hp.2.2.1,hp.2.2.2⟩,fun j hj hfj hcj ho=> ?_⟩
  rcases h.cls j hj hfj hcj ho with hm|hm
  · rcases List.mem_append.1 hm with h1 | h1
    · exact .inl h1
    · exact .inr fun k _ _ _ hD=>absurd (hD (by simpa using h1)) id
  · exact .inr fun k a b d _=>hm k a b d
theorem FlP.done {i p:Nat} {o:List Int} {st:List Nat} {D:Nat→Prop} (h:FlP n f adj c i o st p D) (hD:∀k,adj p k→D k):Fld n f adj c i o st:=
  ⟨h.len,h.old,h.new,h.self,h.stk,fun j hj hfj hcj ho=>(h.cls j hj hfj hcj ho).imp id fun hm k a b d=>hm k a b d (fun e=>hD k (e ▸ d))⟩
theorem FlP.skip {i p:Nat} {o:List Int} {st:List Nat} {D E:Nat→Prop} (h:FlP n f adj c i o st p D) (hE:∀k,E k→D k∨(k<n→f k=true→adj p k→o.getD k 0=(cnt (ldr f c) i:Int))):FlP n f adj c i o st p E:=
  ⟨h.len,h.old,h.new,h.self,h.stk,h.pop,fun j hj hfj hcj ho=>(h.cls j hj hfj hcj ho).imp id fun hm k a b d e=>by
    by_cases e2:j=p
    · rcases hE k (e e2) with h1 | h1
      · exact hm k a b d (fun _=>h1)
      · exact h1 a b (e2 ▸ d)
    · exact hm k a b d (fun e3=>absurd e3 e2)⟩
theorem FlP.seen {i p k:Nat} {o:List Int} {st:List Nat} {D:Nat→Prop} (hc:Lst (fun j=>f j=true) adj c) (h:FlP n f adj c i o st p D) (hk:k<n) (hf:f k=true) (ha:adj p k) (ho:¬o.getD k 0<0):o.getD k 0=(cnt (ldr f c) i:Int):=by
  have e:c k=i:=by rw [← hc.same p k h.pop.2.1 hf ha];exact h.pop.2.2
  rcases h.new k hk (fun x=>by omega) with h1|h1
  · omega
  · exact h1.1
theorem FlP.visit {i p k:Nat} {o:List Int} {st:List Nat} {D:Nat→Prop} (hc:Lst (fun j=>f j=true) adj c) (h:FlP n f adj c i o st p D) (hk:k<n) (hf:f k=true) (ha:adj p k) (ho:o.getD k 0<0):
    FlP n f adj c i (o.set k (cnt (ldr f c) i:Int)) (st++[k]) p (fun x=>D x∨x=k):=by
  have e:c k=i:=by rw [← hc.same p k h.pop.2.1 hf ha];exact h.pop.2.2
  have hl:=h.len
  have hs:(o.set k (cnt (ldr f c) i:Int)).getD k 0=(cnt (ldr f c) i:Int):=Big.getD_set_self (by omega) _
  have hne:∀j,j≠k→(o.set k (cnt (ldr f c) i:Int)).getD j 0=o.getD j 0:=fun j hj=>Big.getD_set_ne hj _
  refine ⟨by rw [List.length_set];exact hl,fun j hj hfj hlt=> ?_,fun j hj hn=> ?_,?_,fun j hj=> ?_,h.pop,fun j hj hfj hcj hoj=> ?_⟩
  · rw [hne j (fun x=>by rw [x,e] at hlt;omega)];exact h.old j hj hfj hlt
  · by_cases x : j = k
    · exact .inr ⟨by rw [x];exact hs,x ▸ hf,x ▸ e⟩
    · rw [hne j x];exact h.new j hj hn
  · by_cases x : i = k
    · rw [x] at hs ⊢;exact hs
    · rw [hne i x];exact h.self
  · by_cases x : j = k
    · exact ⟨x ▸ hk,by rw [x];exact hs,x ▸ hf,x ▸ e⟩
    · rw [hne j x]
      rcases List.mem_append.1 hj with h1|h1
      · exact h.stk j h1
      · exact absurd (by simpa using h1) x
  · by_cases x : j = k
    · exact .inl (by simp [x])
    · rw [hne j x] at hoj
      rcases h.cls j hj hfj hcj hoj with h1|h1
      · exact .inl (by simp [h1])
      · refine .inr fun q a b d hD => ?_
        by_cases y:q=k
        · rw [y];exact hs
        · rw [hne q y];exact h1 q a b d (fun z=>(hD z).resolve_right y)
theorem OutI.start:OutI n f c 0 (List.replicate n (-1)):=⟨by simp,fun j _ _ h=>by omega,fun j hj _=>by simp [List.getD_eq_getElem?_getD,hj]⟩
theorem OutI.none {i:Nat} {o:List Int} (hc:Lst (fun j=>f j=true) adj c) (h:OutI n f c i o) (hi:i<n) (hx:¬o.getD i 0<0∨¬f i=true):OutI n f c (i+1) o∧ldr f c i=false:=by
  have hl:¬(f i=true∧c i=i):=fun k=>by
    rcases hx with h1|h1
    · exact h1 (by rw [h.new i hi (fun x=>by omega)];decide)
    · exact h1 k.1
  refine ⟨⟨h.len,fun j hj hf hlt=>h.old j hj hf ?_,fun j hj hn=>h.new j hj fun x=>hn ⟨x.1,by omega⟩⟩,?_⟩
  · by_cases e : c j = i
    · exact absurd ⟨e ▸ hc.mem hf,by have:=hc.idem hf;rw [e] at this;exact this⟩ hl
    · omega
  · unfold ldr
    by_cases e:f i=true
    · simp only [e,Bool.true_and];exact decide_eq_false fun k=>hl ⟨e,k⟩
    · simp [e]
theorem OutI.lead {i:Nat} {o:List Int} (hc:Lst (fun j=>f j=true) adj c) (h:OutI n f c i o) (hi:i<n) (hx:o.getD i 0<0) (hf:f i=true):Fld n f adj c i (o.set i (cnt (ldr f c) i:Int)) [i]∧ldr f c i=true:=by
  have hle:=hc.le i hf
  have hci:c i=i:=by
    by_cases e:c i<i
    · have:=h.old i hi hf e;omega
    · omega
  have hs:(o.set i (cnt (ldr f c) i:Int)).getD i 0=(cnt (ldr f c) i:Int):=Big.getD_set_self (by rw [h.len];exact hi) _
  have hne:∀j,j≠i→(o.set i (cnt (ldr f c) i:Int)).getD j 0=o.getD j 0:=fun j hj=>Big.getD_set_ne hj _
  refine ⟨⟨by rw [List.length_set];exact h.len,fun j hj hfj hlt=> ?_,fun j hj hn=> ?_,hs,fun j hj=> ?_,fun j hj hfj hcj hoj=> ?_⟩,by simp [ldr,hf,hci]⟩
  · rw [hne j (fun e=>by rw [e,hci] at hlt;omega)];exact h.old j hj hfj hlt
  · by_cases e : j = i
    · exact .inr ⟨by rw [e];exact hs,e ▸ hf,by rw [e];exact hci⟩
    · rw [hne j e];exact .inl (h.new j hj hn)
  · have e : j = i := by simpa using hj
    subst e;exact ⟨hi,hs,hf,hci⟩
  · by_cases e : j = i
    · exact .inl (by simp [e])
    · rw [hne j e,h.new j hj (fun x=>by omega)] at hoj;omega
end
def unv (o:List Int):Nat:=o.countP (fun x=>decide (x<0))
theorem unv_set {o:List Int} {k:Nat} {v:Int} (hk:k<o.length) (ho:o.getD k 0<0) (hv:0≤v):unv (o.set k v)+1=unv o:=by
  unfold unv
  have hg:o[k]<0:=by rw [List.getD_eq_getElem?_getD,List.getElem?_eq_getElem hk] at ho;exact ho
  have hp:0<o.countP (fun x=>decide (x<0)):=List.countP_pos_iff.2 ⟨o[k],List.getElem_mem hk,by simpa using hg⟩
  rw [List.countP_set]
  rw [if_pos (by simpa using hg),if_neg (by simpa using hv)]
  omega
section
variable {n : Nat} {f : Nat → Bool} {adj : Nat → Nat → Prop} {c : Nat → Nat}
end
def nb (e:Bool) (w n j k:Nat):Prop:=
  j<n∧k<n∧j≠k∧(((j%w:Nat):Int) - (k%w:Nat)).natAbs≤1∧(((j / w:Nat):Int) - (k / w:Nat)).natAbs≤1∧(e=true∨(((j%w:Nat):Int) - (k%w:Nat)).natAbs+(((j / w:Nat):Int) - (k / w:Nat)).natAbs≤1)
theorem nb_symm {e:Bool} {w n j k:Nat} (h:nb e w n j k):nb e w n k j:=by
  unfold nb at*
  obtain ⟨h1,h2,h3,h4,h5,h6⟩:=h
  refine ⟨h2,h1,fun x=>h3 x.symm,by omega,by omega,h6.imp id fun h=>by omega⟩
theorem nb_lt {e:Bool} {w n j k:Nat} (h:nb e w n j k):k<n:=h.2.1
theorem pix {w h:Nat} {x y:Int} (hx:0≤x∧x<w) (hy:0≤y∧y<h):0≤y*w+x∧(y*w+x).toNat<w*h∧(y*w+x).toNat%w=x.toNat∧(y*w+x).toNat / w=y.toNat:=by
  obtain ⟨a,ha⟩:∃a:Nat,x=a:=⟨x.toNat,by omega⟩
  obtain ⟨b,hb⟩:∃b:Nat,y=b:=⟨y.toNat,by omega⟩
  subst ha;subst hb
  have e:((b:Int)*w+a).toNat=w*b+a:=by rw [← Int.natCast_mul,Nat.mul_comm];omega
  have hw:0<w:=by omega
  have h1:(w*b+a)%w=a:=by rw [Nat.mul_add_mod];exact Nat.mod_eq_of_lt (by omega)
  have h2:(w*b+a) / w=b:=by rw [Nat.mul_add_div hw,Nat.div_eq_of_lt (by omega)];rfl
  have h3:w*b+a<w*h:=by
    have:w*(b+1)≤w*h:=Nat.mul_le_mul_left w (by omega)
    rw [Nat.mul_add,Nat.mul_one] at this;omega
  have h4:=Int.mul_nonneg (show (0:Int)≤b by omega) (show (0:Int)≤w by omega)
  rw [e]
  exact ⟨by omega,h3,by simpa using h1,by simpa using h2⟩
section
variable {n : Nat} {f : Nat → Bool} {adj : Nat → Nat → Prop}
structure RdI (n:Nat) (f:Nat→Bool) (adj:Nat→Nat→Prop) (o:List Int):Prop where
  len:o.length=n
  lo:∀i,i<n→0≤o.getD i 0∧o.getD i 0≤i
  con:∀i,i<n→f i=true→Conn (fun j=>f j=true) adj i (o.getD i 0).toNat
  out:∀i,i<n→¬f i=true→o.getD i 0=i
theorem RdI.step {o:List Int} {i k:Nat} (h:RdI n f adj o) (hi:i<n) (hk:k<n) (hfi:f i=true) (hfk:f k=true) (ha:adj i k) (hlt:o.getD k 0<o.getD i 0):RdI n f adj (o.set i (o.getD k 0)):=by
  have hs:(o.set i (o.getD k 0)).getD i 0=o.getD k 0:=Big.getD_set_self (by rw [h.len];exact hi) _
  have hne:∀j,j≠i→(o.set i (o.getD k 0)).getD j 0=o.getD j 0:=fun j hj=>Big.getD_set_ne hj _
  refine ⟨by rw [List.length_set];exact h.len,fun j hj=> ?_,fun j hj hf=> ?_,fun j hj hf=>by rw [hne j (fun e=>hf (e ▸ hfi))];exact h.out j hj hf⟩
  · by_cases e : j = i
    · rw [e,hs];have h1:=h.lo k hk;have h2:=h.lo i hi;omega
    · rw [hne j e];exact h.lo j hj
  · by_cases e : j = i
    · rw [e,hs];exact .step hfi hfk ha (h.con k hk hfk)
    · rw [hne j e];exact h.con j hj hf
theorem RdI.fin {o:List Int} (h:RdI n f adj o) (hn:∀i,f i=true→i<n) (hs:∀i j,adj i j→adj j i) (hx:∀i k,f i=true→f k=true→adj i k→¬o.getD k 0<o.getD i 0):Lst (fun j=>f j=true) adj (fun i=>(o.getD i 0).toNat):=
  ⟨fun i hi=>by have:=h.lo i (hn i hi);show (o.getD i 0).toNat≤i;omega,fun i hi=>h.con i (hn i hi) hi,fun i k hi hk ha=>by
    have h1:=hx i k hi hk ha;have h2:=hx k i hk hi (hs _ _ ha)
    show (o.getD i 0).toNat=(o.getD k 0).toNat;omega⟩
end
theorem nb_place {e:Bool} {w h p:Nat} {a b:Int} (hp:p<w*h) (hx:0≤((p%w:Nat):Int)+a∧((p%w:Nat):Int)+a<w) (hy:0≤((p / w:Nat):Int)+b∧((p / w:Nat):Int)+b<h)
    (ha:a.natAbs≤1) (hb:b.natAbs≤1) (h0:¬(a=0∧b=0)) (he:e=true∨a.natAbs+b.natAbs≤1):nb e w (w*h) p ((((p / w:Nat):Int)+b)*w+(((p%w:Nat):Int)+a)).toNat:=by
  obtain ⟨q0,q1,q2,q3⟩:=pix hx hy
  obtain ⟨k,hk⟩:∃k,k=((((p / w:Nat):Int)+b)*w+(((p%w:Nat):Int)+a)).toNat:=⟨_,rfl⟩
  rw [← hk] at q1 q2 q3 ⊢
  obtain ⟨u,hu⟩:∃u,u=p%w:=⟨_,rfl⟩
  obtain ⟨v,hv⟩:∃v,v=p / w:=⟨_,rfl⟩
  obtain ⟨u2,hu2⟩:∃u,u=k%w:=⟨_,rfl⟩
  obtain ⟨v2,hv2⟩:∃v,v=k / w:=⟨_,rfl⟩
  unfold nb
  rw [← hu] at q2 hx ⊢;rw [← hv] at q3 hy ⊢
  rw [← hu2] at q2 ⊢;rw [← hv2] at q3 ⊢
  refine ⟨hp,q1,fun x=> ?_,by omega,by omega,he.imp id fun y=>by omega⟩
  rw [← x,←hu] at hu2;rw [← x,←hv] at hv2
  exact h0 (by omega)
theorem nb_step {e:Bool} {w h p k:Nat} (hw:0<w) (hn:nb e w (w*h) p k):∃a b:Int,a.natAbs≤1∧b.natAbs≤1∧¬(a=0∧b=0)∧(e=true∨a.natAbs+b.natAbs≤1)∧
    (0≤((p%w:Nat):Int)+a∧((p%w:Nat):Int)+a<w)∧(0≤((p / w:Nat):Int)+b∧((p / w:Nat):Int)+b<h)∧k=((((p / w:Nat):Int)+b)*w+(((p%w:Nat):Int)+a)).toNat:=by
  obtain ⟨h1,h2,h3,h4,h5,h6⟩:=hn
  have k1:=Nat.mod_lt k hw
  have k2:k / w<h:=Nat.div_lt_of_lt_mul h2
  have k3:=Nat.div_add_mod k w
  have p3:=Nat.div_add_mod p w
  have e1:((p%w:Nat):Int)+(((k%w:Nat):Int) - (p%w:Nat))=(k%w:Nat):=by
    generalize k%w=u;generalize p%w=v;omega
  have e2:((p / w:Nat):Int)+(((k / w:Nat):Int) - (p / w:Nat))=(k / w:Nat):=by
    generalize k / w=u;generalize p / w=v;omega
  refine ⟨((k%w:Nat):Int) - (p%w:Nat),((k / w:Nat):Int) - (p / w:Nat),?_,?_,?_,?_,?_,?_,?_⟩
  · generalize k%w=u at *;generalize p%w=v at *;omega
  · generalize k / w=u at *;generalize p / w=v at *;omega
  · intro x
    have x1:k%w=p%w:=by generalize k%w=u at *;generalize p%w=v at *;omega
    have x2:k / w=p / w:=by generalize k / w=u at *;generalize p / w=v at *;omega
    rw [x1,x2] at k3;exact h3 (by omega)
  · refine h6.imp id fun y => ?_
    generalize k%w=u at *;generalize p%w=v at *;generalize k / w=u2 at *;generalize p / w=v2 at *;omega
  · rw [e1];generalize k%w=u at *;omega
  · rw [e2];generalize k / w=u at *;omega
  · rw [e1, e2, ← Int.natCast_mul, Nat.mul_comm]
    generalize w*(k / w)=s at *;generalize k%w=u at *;omega
end Go.Proofs.Ytefbbhiaalcjfaa.Fl
namespace Go.Proofs.Ytefbbhiaalcjfaa.Fl
def tot (o:List Int):Nat:=(o.map Int.toNat).sum
theorem tot_set {o:List Int} {k:Nat} {v:Int} (hk:k<o.length) (h0:0≤v) (hv:v<o.getD k 0):tot (o.set k v)<tot o:=by
  unfold tot
  induction o generalizing k with
  |nil=>simp at hk
  |cons a t ih=>
    cases k with
    |zero=>simp only [List.set_cons_zero,List.map_cons,List.sum_cons];have:v<a:=(by simpa using hv);omega
    |succ k=>
      simp only [List.set_cons_succ,List.map_cons,List.sum_cons]
      have:=ih (k:=k) (by simpa using hk) (by simpa using hv);omega
section
variable {n w : Nat} {f : Nat → Bool} {adj : Nat → Nat → Prop}
def Dn (f:Nat→Bool) (adj:Nat→Nat→Prop) (w:Nat) (o:List Int) (i:Nat) (Y X:Int):Prop:=
  ∀b a:Int,-1≤b→b≤1→ -1≤a→a≤1→(b<Y∨b=Y∧a<X)→∀k:Nat,(k:Int)=i+b*w+a→f i=true→f k=true→adj i k→¬o.getD k 0<o.getD i 0
structure Rnd (n w:Nat) (f:Nat→Bool) (adj:Nat→Nat→Prop) (o0 o:List Int) (g:Bool) (i:Nat) (Y X:Int):Prop where
  rd:RdI n f adj o
  lt:g=true→tot o<tot o0
  eq:g=false→o=o0
  old:g=false→∀j k,j<i→f j=true→f k=true→adj j k→¬o.getD k 0<o.getD j 0
  dn:g=false→Dn f adj w o i Y X
theorem Rnd.start {o:List Int} (h:RdI n f adj o):Rnd n w f adj o o false 0 (-1) (-1):=
  ⟨h,fun e=>(by cases e),fun _=>rfl,fun _ j k hj=>by omega,fun _ b a h1 _ h2 _ h3=>by omega⟩
theorem Rnd.le {o0 o:List Int} {g:Bool} {i:Nat} {Y X:Int} (h:Rnd n w f adj o0 o g i Y X):tot o≤tot o0:=by
  cases g with
  |true=>exact Nat.le_of_lt (h.lt rfl)
  |false=>rw [h.eq rfl];exact Nat.le_refl _
theorem Rnd.skip {o0 o:List Int} {g:Bool} {i:Nat} {Y X:Int} (h:Rnd n w f adj o0 o g i Y X) (hx:∀k:Nat,(k:Int)=i+Y*w+X→f i=true→f k=true→adj i k→¬o.getD k 0<o.getD i 0):Rnd n w f adj o0 o g i Y (X+1):=
  ⟨h.rd,h.lt,h.eq,h.old,fun e b a h1 h2 h3 h4 h5=>by
    by_cases h6:b=Y∧a=X
    · rw [h6.1,h6.2];exact hx
    · exact h.dn e b a h1 h2 h3 h4 (by omega)⟩
theorem Rnd.set {o0 o:List Int} {g:Bool} {i k:Nat} {Y X:Int} (h:Rnd n w f adj o0 o g i Y X) (hi:i<n) (hk:k<n) (hfi:f i=true) (hfk:f k=true) (ha:adj i k) (hlt:o.getD k 0<o.getD i 0) (Y' X':Int):Rnd n w f adj o0 (o.set i (o.getD k 0)) true i Y' X':=
  ⟨h.rd.step hi hk hfi hfk ha hlt,fun _=>Nat.lt_of_lt_of_le (tot_set (by rw [h.rd.len];exact hi) (h.rd.lo k hk).1 hlt) h.le,fun e=>(by cases e),fun e=>(by cases e),fun e=>(by cases e)⟩
theorem Rnd.row {o0 o:List Int} {g:Bool} {i:Nat} {Y X:Int} (h:Rnd n w f adj o0 o g i Y X) (hX:1<X):Rnd n w f adj o0 o g i (Y+1) (-1):=
  ⟨h.rd,h.lt,h.eq,h.old,fun e b a h1 h2 h3 h4 h5=>h.dn e b a h1 h2 h3 h4 (by omega)⟩
theorem Rnd.next {o0 o:List Int} {g:Bool} {i:Nat} {Y X:Int} (h:Rnd n w f adj o0 o g i Y X) (hY:1<Y) (hb:∀k,adj i k→∃a b:Int,-1≤a∧a≤1∧ -1≤b∧b≤1∧(k:Int)=i+b*w+a):Rnd n w f adj o0 o g (i+1) (-1) (-1):=
  ⟨h.rd,h.lt,h.eq,fun e j k hj hfj hfk ha=>by
    by_cases x:j=i
    · subst x
      obtain ⟨a,b,h1,h2,h3,h4,h5⟩:=hb k ha
      exact h.dn e b a h3 h4 h1 h2 (by omega) k h5 hfj hfk ha
    · exact h.old e j k (by omega) hfj hfk ha,fun e b a h1 _ h2 _ h3=>by omega⟩
structure Rds (n:Nat) (f:Nat→Bool) (adj:Nat→Nat→Prop) (o:List Int) (g:Bool):Prop where
  rd:RdI n f adj o
  fin:g=false→∀j k,j<n→f j=true→f k=true→adj j k→¬o.getD k 0<o.getD j 0
theorem Rds.start:Rds n f adj ((List.range n).map (fun i:Nat=>(i:Int))) true:=by
  have e:∀i,i<n→((List.range n).map (fun i:Nat=>(i:Int))).getD i 0=i:=fun i hi=>by simp [List.getD_eq_getElem?_getD,hi]
  exact ⟨⟨by simp,fun i hi=>by rw [e i hi];omega,fun i hi _=>by rw [e i hi];exact .refl _,fun i hi _=>e i hi⟩,fun e=>(by cases e)⟩
end
theorem nb_steps {e:Bool} {w h p k:Nat} (hw:0<w) (hn:nb e w (w*h) p k):∃a b:Int,-1≤a∧a≤1∧ -1≤b∧b≤1∧(k:Int)=p+b*w+a:=by
  obtain ⟨a,b,h1,h2,_,_,h3,h4,h5⟩:=nb_step hw hn
  have q:=(pix h3 h4).1
  refine ⟨a,b,by omega,by omega,by omega,by omega,?_⟩
  have hp:=Nat.div_add_mod p w
  have e1:(p:Int)=((p / w:Nat):Int)*w+((p%w:Nat):Int):=by
    rw [← Int.natCast_mul,Nat.mul_comm];generalize w*(p / w)=s at *;generalize p%w=u at *;omega
  have e2:(k:Int)=((((p / w:Nat):Int)+b)*w+(((p%w:Nat):Int)+a)):=by rw [h5];omega
  rw [e2,Int.add_mul]
  generalize ((p / w:Nat):Int)*w=A at *;generalize ((p%w:Nat):Int)=B at *;generalize b*(w:Int)=C at *;omega
end Go.Proofs.Ytefbbhiaalcjfaa.Fl
namespace Go.Proofs.Ytefbbhiaalcjfaa.Fl
def iz (j:Nat):Int:=j
def fl (l:List Bool) (j:Nat):Bool:=l.getD j false
def ge (l:List Int) (th:Int) (j:Nat):Bool:=decide (j<l.length)&&decide (th≤l.getD j 0)
def lo (l:List Int) (th:Int) (j:Nat):Bool:=decide (j<l.length)&&decide (l.getD j 0<th)
theorem ge_iff {l:List Int} {th:Int} {j:Nat} (h:j<l.length):ge l th j=true↔th≤l.getD j 0:=by simp [ge,h]
theorem lo_iff {l:List Int} {th:Int} {j:Nat} (h:j<l.length):lo l th j=true↔l.getD j 0<th:=by simp [lo,h]
theorem ge_lt {l:List Int} {th:Int} {j:Nat} (h:ge l th j=true):j<l.length:=by simp [ge] at h;exact h.1
theorem lo_lt {l:List Int} {th:Int} {j:Nat} (h:lo l th j=true):j<l.length:=by simp [lo] at h;exact h.1
section
variable {n w : Nat} {l : List Bool} {e : Bool}
def LK (e:Bool) (w j k:Nat):Prop:=(((j%w:Nat):Int) - (k%w:Nat)).natAbs≤1∧(((j / w:Nat):Int) - (k / w:Nat)).natAbs≤1∧(e=true∨(((j%w:Nat):Int) - (k%w:Nat)).natAbs+(((j / w:Nat):Int) - (k / w:Nat)).natAbs≤1)
instance (e:Bool) (w j k:Nat):Decidable (LK e w j k):=inferInstanceAs (Decidable (_∧_))
def CD (e:Bool) (w n:Nat) (l:List Bool) (o:List Int) (i:Nat) (kk:Int):Prop:=
  0≤kk∧kk<(n:Int)∧l.getD i false=true∧l.getD kk.toNat false=true∧LK e w i kk.toNat∧o.getD kk.toNat 0<o.getD i 0
instance (e:Bool) (w n:Nat) (l:List Bool) (o:List Int) (i:Nat) (kk:Int):Decidable (CD e w n l o i kk):=inferInstanceAs (Decidable (_∧_))
theorem Rnd.yes {o0 o:List Int} {g:Bool} {i:Nat} {Y X kk:Int} (h:Rnd n w (fl l) (nb e w n) o0 o g i Y X) (hi:i<n) (hc:CD e w n l o i kk) (Y' X':Int):Rnd n w (fl l) (nb e w n) o0 (o.set i (o.getD kk.toNat 0)) true i Y' X':=by
  obtain ⟨h1,h2,h3,h4,h5,h6⟩:=hc
  exact h.set hi (by omega) h3 h4 ⟨hi,by omega,fun x=>by rw [← x] at h6;omega,h5⟩ h6 Y' X'
theorem Rnd.no {o0 o:List Int} {g:Bool} {i:Nat} {Y X kk:Int} (h:Rnd n w (fl l) (nb e w n) o0 o g i Y X) (hk:kk=i+Y*w+X) (hc:¬CD e w n l o i kk):Rnd n w (fl l) (nb e w n) o0 o g i Y (X+1):=
  h.skip fun k e1 e2 e3 e4 e5=>hc (by
    have e6:kk.toNat=k:=by rw [hk,←e1];rfl
    refine ⟨by omega,by have:=e4.2.1;omega,e2,by rw [e6];exact e3,by rw [e6];exact e4.2.2.2,by rw [e6];exact e5⟩)
theorem Rnd.on {h:Nat} {o0 o:List Int} {g:Bool} {i:Nat} {Y X:Int} (hw:0<w) (hn:n=w*h) (hr:Rnd n w (fl l) (nb e w n) o0 o g i Y X) (hY:1<Y):Rnd n w (fl l) (nb e w n) o0 o g (i+1) (-1) (-1):=
  hr.next hY fun k hk=>by subst hn;exact nb_steps hw hk
end
def atD (w pp:Nat) (d:Int×Int):Nat:=((((pp / w:Nat):Int)+d.2)*w+(((pp%w:Nat):Int)+d.1)).toNat
def inD (w h pp:Nat) (d:Int×Int):Prop:=0≤((pp%w:Nat):Int)+d.1∧0≤((pp / w:Nat):Int)+d.2∧((pp%w:Nat):Int)+d.1<w∧((pp / w:Nat):Int)+d.2<h
instance (w h pp:Nat) (d:Int×Int):Decidable (inD w h pp d):=inferInstanceAs (Decidable (_∧_))
def CP (w h pp:Nat) (f:Nat→Bool) (o:List Int) (d:Int×Int):Prop:=inD w h pp d∧o.getD (atD w pp d) 0<0∧f (atD w pp d)=true
instance (w h pp:Nat) (f:Nat→Bool) (o:List Int) (d:Int×Int):Decidable (CP w h pp f o d):=inferInstanceAs (Decidable (_∧_))
def Dst (w h pp:Nat) (l:List (Int×Int)) (q:Nat) (k:Nat):Prop:=∃j,j<q∧inD w h pp (l.getD j (0,0))∧k=atD w pp (l.getD j (0,0))
structure Stp (e:Bool) (l:List (Int×Int)):Prop where
  ok:∀d∈l,d.1.natAbs≤1∧d.2.natAbs≤1∧¬(d.1=0∧d.2=0)∧(e=true∨d.1.natAbs+d.2.natAbs≤1)
  all:∀a b:Int,a.natAbs≤1→b.natAbs≤1→¬(a=0∧b=0)→(e=true∨a.natAbs+b.natAbs≤1)→(a,b)∈l
theorem three {a:Int} (h:a.natAbs≤1):a= -1∨a=0∨a=1:=by omega
def st4:List (Int×Int):=[((1:Int),(0:Int)),(-1,0),(0,1),(0,-1)]
def st8:List (Int×Int):=[((1:Int),(0:Int)),(-1,0),(0,1),(0,-1)]++[(1,1),(-1,1),(1,-1),(-1,-1)]
theorem stp4:Stp false st4:=⟨by decide,fun a b h1 h2 h3 h4=>by
  rcases three h1 with e|e|e <;> rcases three h2 with k|k|k <;> subst e <;> subst k <;> first|decide|(exfalso;revert h3 h4;decide)⟩
theorem stp8:Stp true st8:=⟨by decide,fun a b h1 h2 h3 h4=>by
  rcases three h1 with e|e|e <;> rcases three h2 with k|k|k <;> subst e <;> subst k <;> first|decide|(exfalso;revert h3 h4;decide)⟩
theorem gD_mem {l:List (Int×Int)} {q:Nat} (h:q<l.length):l.getD q (0,0)∈l:=by
  rw [List.getD_eq_getElem?_getD,List.getElem?_eq_getElem h];exact List.getElem_mem h
theorem mem_gD {l:List (Int×Int)} {d:Int×Int} (h:d∈l):∃q,q<l.length∧l.getD q (0,0)=d:=by
  obtain ⟨q,hq,e⟩:=List.getElem_of_mem h
  exact ⟨q,hq,by rw [List.getD_eq_getElem?_getD,List.getElem?_eq_getElem hq];exact e⟩
theorem inD.pix {w h pp:Nat} {d:Int×Int} (hi:inD w h pp d):0≤(((pp / w:Nat):Int)+d.2)*w+(((pp%w:Nat):Int)+d.1)∧atD w pp d<w*h:=by
  have:=Fl.pix (w:=w) (h:=h) ⟨hi.1,hi.2.2.1⟩ ⟨hi.2.1,hi.2.2.2⟩;exact ⟨this.1,this.2.1⟩
theorem inD.nb {e:Bool} {w h pp q:Nat} {l:List (Int×Int)} (hs:Stp e l) (hq:q<l.length) (hp:pp<w*h) (hi:inD w h pp (l.getD q (0,0))):nb e w (w*h) pp (atD w pp (l.getD q (0,0))):=by
  obtain ⟨h1,h2,h3,h4⟩:=hs.ok _ (gD_mem hq)
  exact nb_place hp ⟨hi.1,hi.2.2.1⟩ ⟨hi.2.1,hi.2.2.2⟩ h1 h2 h3 h4
theorem at_b {w n pp:Nat} {d:Int×Int} (hw:1≤w∧w≤64) (hp:pp<n) (hn:n≤4096) (h1:d.1.natAbs≤1) (h2:d.2.natAbs≤1):
    (-64≤(((pp / w:Nat):Int)+d.2)*w∧(((pp / w:Nat):Int)+d.2)*w≤4160)∧(-1≤((pp%w:Nat):Int)+d.1∧((pp%w:Nat):Int)+d.1≤64)∧(-1≤((pp / w:Nat):Int)+d.2∧((pp / w:Nat):Int)+d.2≤4097):=by
  have e1:=Nat.div_mul_le_self pp w
  have e2:=Nat.mod_lt pp (show 0<w by omega)
  have e3:=Nat.div_le_self pp w
  have e4:(((pp / w:Nat):Int)+d.2)*w=((pp / w*w:Nat):Int)+d.2*w:=by rw [Int.add_mul,←Int.natCast_mul]
  have e5: -64≤d.2*(w:Int)∧d.2*(w:Int)≤64:=by rcases three h2 with e|e|e <;> rw [e] <;> omega
  rw [e4]
  generalize pp / w*w=A at *;generalize pp%w=B at *;generalize pp / w=C at *;generalize d.2*(w:Int)=E at *;omega
theorem Dst.none {w h pp:Nat} {l:List (Int×Int)} {k:Nat}:¬Dst w h pp l 0 k:=fun ⟨_,h,_⟩=>by omega
theorem Dst.all {e:Bool} {w h pp k:Nat} {l:List (Int×Int)} (hs:Stp e l) (hw:0<w) (hk:Fl.nb e w (w*h) pp k):Dst w h pp l l.length k:=by
  obtain ⟨a,b,h1,h2,h3,h4,h5,h6,h7⟩:=nb_step hw hk
  obtain ⟨q,hq,e1⟩:=mem_gD (hs.all a b h1 h2 h3 h4)
  exact ⟨q,hq,by rw [e1];exact ⟨h5.1,h6.1,h5.2,h6.2⟩,by rw [e1];exact h7⟩
section
variable {n w h i pp q : Nat} {f : Nat → Bool} {e : Bool} {c : Nat → Nat} {o : List Int} {st : List Nat} {l : List (Int × Int)}
theorem FlP.start (hf:Fld n f (nb e w n) c i o (st++[pp])):FlP n f (nb e w n) c i o st pp (Dst w h pp l 0):=
  hf.pop.skip fun _ hk=>absurd hk Dst.none
theorem FlP.end_ (hs:Stp e l) (hw:0<w) (hn:n=w*h) (hf:FlP n f (nb e w n) c i o st pp (Dst w h pp l l.length)):Fld n f (nb e w n) c i o st:=
  hf.done fun k hk=>by subst hn;exact Dst.all hs hw hk
theorem FlP.yes (hs:Stp e l) (hn:n=w*h) (hq:q<l.length) (hc:Lst (fun j=>f j=true) (nb e w n) c) (hf:FlP n f (nb e w n) c i o st pp (Dst w h pp l q)) (hi:inD w h pp (l.getD q (0,0))) (ho:o.getD (atD w pp (l.getD q (0,0))) 0<0) (hfk:f (atD w pp (l.getD q (0,0)))=true):
    FlP n f (nb e w n) c i (o.set (atD w pp (l.getD q (0,0))) (cnt (ldr f c) i:Int)) (st++[atD w pp (l.getD q (0,0))]) pp (Dst w h pp l (q+1))∧2*unv (o.set (atD w pp (l.getD q (0,0))) (cnt (ldr f c) i:Int))+(st++[atD w pp (l.getD q (0,0))]).length+1=2*unv o+st.length:=by
  subst hn
  have hk:=hi.pix.2
  refine ⟨(hf.visit hc hk hfk (hi.nb hs hq hf.pop.1) ho).skip fun k hD=> .inl ?_,?_⟩
  · obtain ⟨j, h1, h2, h3⟩ := hD
    by_cases e:j=q
    · right;rw [h3,e]
    · left;exact ⟨j,by omega,h2,h3⟩
  · have := unv_set (by rw [hf.len]; exact hk) ho (v := (cnt (ldr f c) i : Int)) (by omega)
    rw [List.length_append];simp only [List.length_cons,List.length_nil];omega
theorem FlP.no (hs:Stp e l) (hn:n=w*h) (hq:q<l.length) (hc:Lst (fun j=>f j=true) (nb e w n) c) (hf:FlP n f (nb e w n) c i o st pp (Dst w h pp l q)) (hx:¬(inD w h pp (l.getD q (0,0))∧o.getD (atD w pp (l.getD q (0,0))) 0<0∧f (atD w pp (l.getD q (0,0)))=true)):
    FlP n f (nb e w n) c i o st pp (Dst w h pp l (q+1)):=by
  subst hn
  refine hf.skip fun k hD=> ?_
  obtain ⟨j,h1,h2,h3⟩:=hD
  by_cases e:j=q
  · subst e; subst h3
    refine .inr fun a b d=>hf.seen hc a b d fun x=>hx ⟨h2,x,b⟩
  · exact .inl ⟨j,by omega,h2,h3⟩
end
theorem getD_iz (st:List Nat) (pp:Nat):((st++[pp]).map iz).getD st.length 0=(pp:Int):=by
  rw [List.map_append,List.getD_eq_getElem?_getD,List.getElem?_append_right (by simp)];simp [iz]
theorem snoc {sk:List Nat} (h:sk≠[]):∃st pp,sk=st++[pp]:=⟨_,_,(List.dropLast_concat_getLast h).symm⟩
theorem unv_le (o:List Int):unv o≤o.length:=List.countP_le_length
structure Lab (n:Nat) (f:Nat→Bool) (adj:Nat→Nat→Prop) (o:List Int):Prop where
  len:o.length=n
  ex:∃c,Lst (fun j=>f j=true) adj c∧(∀j,j<n→f j=true→o.getD j 0=(cnt (ldr f c) (c j):Int))∧∀j,j<n→¬f j=true→o.getD j 0= -1
section
variable {n : Nat} {f : Nat → Bool} {adj : Nat → Nat → Prop} {c d : Nat → Nat} {o o2 : List Int}
theorem OutI.lab (hc:Lst (fun j=>f j=true) adj c) (hn:∀j,f j=true→j<n) (h:OutI n f c n o):Lab n f adj o:=
  ⟨h.len,c,hc,fun j hj hf=>h.old j hj hf (hn _ (hc.mem hf)),fun j hj hf=>h.new j hj fun k=>hf k.1⟩
theorem ldr_uniq (hc:Lst (fun j=>f j=true) adj c) (hd:Lst (fun j=>f j=true) adj d):ldr f c=ldr f d:=by
  funext j;unfold ldr
  by_cases h:f j=true
  · rw [hc.uniq hd h]
  · simp [h]
theorem Lab.uniq (h:Lab n f adj o) (k:Lab n f adj o2):o=o2:=by
  obtain ⟨c,hc,h1,h2⟩:=h.ex
  obtain ⟨d,hd,k1,k2⟩:=k.ex
  refine Big.ext_getD (by rw [h.len,k.len]) fun j hj=> ?_
  rw [h.len] at hj
  by_cases e:f j=true
  · rw [h1 j hj e,k1 j hj e,ldr_uniq hc hd,hc.uniq hd e]
  · rw [h2 j hj e,k2 j hj e]
end
end Go.Proofs.Ytefbbhiaalcjfaa.Fl
namespace Go.Proofs.Ytefbbhiaalcjfaa.Sp
open Go
set_option linter.unusedVariables false
set_option maxRecDepth 100000
set_option maxHeartbeats 8000000
theorem zrd {w:Nat} {h:Nat} {m:Int} {p:Option Addr} {n:Nat} {cap:Nat} {l:List Int} {tb:Nat} {th:Int} {p2:Option Addr} {c2:Nat} (hn:l.length=n) (hw:1≤w∧w≤64) (hh:1≤h∧h≤64) (hwh:n=w*h) (hb:n≤4096):Con Try.prog 36 [.agg #[.int .i64 ((w:Nat):Int),.int .i64 ((h:Nat):Int),.int .i64 m,.slice p n cap],.func (.func 57) #[] #[.pointer (some ⟨tb,0,none⟩)],.slice p2 4 c2] [] [slF (rI .i64) p cap l,atF tb 0 [.int .i64 th],slF (rI2 .i64) p2 c2 (Fl.st4)] (Y:=(Option Addr)×Nat×(List Int)×(Nat→Nat)) (fun y=>Fl.Lst (fun j=>(Fl.ge l th) j=true) (Fl.nb false w n) y.2.2.2∧Fl.OutI n (Fl.ge l th) y.2.2.2 n y.2.2.1) (fun y=> .tuple #[.slice (y.1) n (y.2.1),.int .i64 (((Fl.cnt (Fl.ldr (Fl.ge l th) y.2.2.2) n):Nat):Int)]) (fun y=>[]) (fun y=>[slF (rI .i64) (y.1) (y.2.1) (y.2.2.1)]):=by
 refine zr Try.func36 rfl rfl rfl (fun c=> ?_)
 show RunC _ _ _ _ _ [(0,.agg #[.int .i64 ((w:Nat):Int),.int .i64 ((h:Nat):Int),.int .i64 m,.slice p n cap]),(1,.func (.func 57) #[] #[.pointer (some ⟨tb,0,none⟩)]),(2,.slice p2 4 c2)] [] [slF (rI .i64) p cap l,atF tb 0 [.int .i64 th],slF (rI2 .i64) p2 c2 (Fl.st4)]
 refine zca 0 rfl (fun hL0=> ?_)
 refine zca 2 rfl (fun hL2=> ?_)
 obtain ⟨cc,hcc⟩:=Fl.Lst.exists (inn:=fun j=>(Fl.ge l th) j=true) (adj:=(Fl.nb false w n)) (fun _ _=>Fl.nb_symm)
 have hin:∀j,(Fl.ge l th) j=true→j<n:=fun j hj=>by have:=Fl.ge_lt hj;omega
 refine zi<|zc<|zS rfl rfl (zX rfl rfl) (fun b1=> ?_)
 refine r_pv rfl rfl (zd rfl)<|r_pv rfl rfl (zd rfl)<|zj<|ze<|zi<|zc<|r_pv rfl rfl (zg Try.underlying24 rfl sz22 rfl rfl)<|r_u rfl rfl (zf 0 ty22 rfl rfl rfl)<|r_pv rfl rfl (zM Try.underlying22 rfl)<|zta rfl rfl (zWa (r:=rI .i64) (k:=n) (x0:=0) (γ0:=()) Try.underlying22 inf3 rfl rfl rfl rfl (by omega) (by omega) rfl (fun g _=>by exact zn.2 (by decide)) (by decide)) (fun b2 _=> ?_)
 refine r_pv rfl rfl (zd rfl)<|zj<|ze<|zi<|zi<|zc<|r_pv rfl rfl (zb rfl)<|r_pv rfl rfl (zM Try.underlying22 rfl)<|r_pv rfl rfl (zb rfl)<|zj<|ze<|zz<|zma (X:=Nat×(List Int)) (fun x:Nat×(List Int)=>x.1≤n∧x.2.length=n∧∀j,j<x.1→x.2.getD j 0= -1) (fun x=>[(26,.int .i64 ((x.1:Nat):Int)),(25,.int .i64 ((n:Nat):Int)),(8,.slice (some ⟨b2,0,none⟩) n n),(7,.int .i64 0),(6,.slice none 0 0),(3,.pointer (some ⟨b1,0,none⟩)),(1,.func (.func 57) #[] #[.pointer (some ⟨tb,0,none⟩)]),(2,.slice p2 4 c2)]) (fun x=>[rowA 3 (rI .i64) (some ⟨b2,0,none⟩) n (x.2),boxA b1 24 [.int .i64 ((w:Nat):Int),.int .i64 ((h:Nat):Int),.int .i64 m,.slice p n cap]]) (fun x=>[slF (rI .i64) p cap l,atF tb 0 [.int .i64 th],slF (rI2 .i64) p2 c2 (Fl.st4)]) (fun x:Nat×(List Int)=>n - x.1) (0,List.replicate n 0) (show 0≤n∧(List.replicate n 0).length=n∧∀j,j<0→(List.replicate n 0).getD j 0= -1 from by exact ⟨Nat.zero_le _,by simp,fun j hj=>by omega⟩) ((.e rfl (by first|rfl|(congr 1;omega)|simp_all) (.of rfl)):SubM _ _) (ho:=((.of [0,0] rfl):PickO _ _ _)) ((.of [0,1,2] rfl):SelR _ _ _) ?_
 rintro ⟨i,A⟩ hI
 replace hI:i≤n∧A.length=n∧∀j,j<i→A.getD j 0= -1:=hI
 try dsimp only
 obtain ⟨hi,hAl,hA⟩:=hI
 refine zi<|zc<|r_pv rfl rfl (zW rfl rfl)<|zj<|ze<|zi<|zD rfl (fun h3=> ?_) (fun h3=> ?_)
 ·
  refine zA<|ze<|zi<|zz<|zi<|zc<|r_pv rfl rfl (zb rfl)<|r_pv rfl rfl (zd rfl)<|zj<|ze<|zc<|r_pv rfl rfl (zb rfl)<|r_pv rfl rfl (zb rfl)<|r_pv rfl rfl (zN (j:=i) Try.underlying22 sz3 rfl rfl rfl (by omega))<|zxa 0 rfl rfl rfl (zR (j:=i) (x0:=(-1)) (γ0:=()) rfl rfl (by first|omega|(rw [List.length_map];omega)|(simp only [List.length_set];omega)|(simp;done)|(simp;omega)) rfl rfl sz3 (fun _ _=>by exact zn.2 (by omega))) (fun _=> .z) (fun _ _=> ?_)
  refine zj<|zJ<|ze<|zc<|r_pv rfl rfl (zy (z:=(((i+1):Nat):Int)) rfl rfl (w64 (by omega)))<|r_pv rfl rfl (zb rfl)<|zj<|zba ((i+1),(A.set i (-1))) (show (i+1)≤n∧(A.set i (-1)).length=n∧∀j,j<(i+1)→(A.set i (-1)).getD j 0= -1 from by exact ⟨by omega,by rw [List.length_set];exact hAl,fun j hj=>by by_cases e9:j=i;exact e9 ▸ Big.getD_set_self (by omega) _;rw [Big.getD_set_ne e9];exact hA j (by omega)⟩) (by show n - (i+1)<n - i;omega) ((.of rfl):SubM _ _) (ho:=((.of [0,0] rfl):PickO _ _ _)) ((.of [0,1,2] rfl):SelR _ _ _)
 ·
  refine zfa<|zm<|zm<|zv<|ze<|zi<|zc<|r_pv rfl rfl (zd rfl)<|zj<|ze<|zi<|zi<|zc<|r_pv rfl rfl (zg Try.underlying24 rfl sz22 rfl rfl)<|r_u rfl rfl (zf 1 ty22 rfl rfl rfl)<|r_pv rfl rfl (zM Try.underlying22 rfl)<|r_pv rfl rfl (zb rfl)<|zj<|ze<|zz ?_
  have hin9:i=n:=by omega
  refine zma (X:=Nat×(List Int)) (fun x:Nat×(List Int)=>x.1≤n∧Fl.OutI n (Fl.ge l th) cc x.1 x.2) (fun x=>[(10,.int .i64 (((Fl.cnt (Fl.ldr (Fl.ge l th) cc) x.1):Nat):Int)),(36,.int .i64 ((x.1:Nat):Int)),(35,.int .i64 ((n:Nat):Int)),(34,.slice p n cap),(8,.slice (some ⟨b2,0,none⟩) n n),(7,.int .i64 0),(6,.slice none 0 0),(3,.pointer (some ⟨b1,0,none⟩)),(1,.func (.func 57) #[] #[.pointer (some ⟨tb,0,none⟩)]),(2,.slice p2 4 c2)]) (fun x=>[rowA 3 (rI .i64) (some ⟨b2,0,none⟩) n (x.2),boxA b1 24 [.int .i64 ((w:Nat):Int),.int .i64 ((h:Nat):Int),.int .i64 m,.slice p n cap]]) (fun x=>[slF (rI .i64) p cap l,atF tb 0 [.int .i64 th],slF (rI2 .i64) p2 c2 (Fl.st4)]) (fun x:Nat×(List Int)=>n - x.1) (0,A) (show 0≤n∧Fl.OutI n (Fl.ge l th) cc 0 A from by exact ⟨Nat.zero_le _,⟨hAl,fun j _ _ hj=>by omega,fun j hj _=>hA j (by omega)⟩⟩) ((.e rfl (by first|rfl|(congr 1;omega)|simp_all) (.e rfl (by first|rfl|(congr 1;omega)|simp_all) (.of rfl))):SubM _ _) (ho:=((.of [0,0] rfl):PickO _ _ _)) ((.of [0,1,2] rfl):SelR _ _ _) ?_
  rintro ⟨i,o⟩ hI
  replace hI:i≤n∧Fl.OutI n (Fl.ge l th) cc i o:=hI
  try dsimp only
  obtain ⟨hi,ho⟩:=hI
  have hol:=ho.len
  have hcn:=Fl.cnt_le (Fl.ldr (Fl.ge l th) cc) i
  refine zi<|zc<|r_pv rfl rfl (zW rfl rfl)<|zj<|ze<|zi<|zD rfl (fun h4=> ?_) (fun h4=> ?_)
  ·
   refine zA<|ze<|zi<|zz<|zi<|zc<|r_pv rfl rfl (zb rfl)<|zQ (x0:=(l.getD i 0)) 0 i rfl Try.underlying22 sz3 rfl rfl rfl (by first|rfl|assumption|(simp only [List.length_append,List.length_map,List.length_cons,List.length_nil];done)|(simp only [List.length_append,List.length_map,List.length_cons,List.length_nil];omega)|omega) rfl rfl (gD (d:=0) (by omega)) (fun b5 o6 hok7=> ?_)
   replace hok7:=zn.1 hok7
   refine r_u rfl rfl (zl (j:=0) 0 ty3 rfl rfl rfl rfl)<|r_pv rfl rfl (zd rfl)<|r_pv rfl rfl (zd rfl)<|zj<|ze<|zi<|zFa (X:=Unit) (fun x=>True) (fun x=>[(51,.bool (decide (¬o.getD i 0<0∨¬(Fl.ge l th) i=true))),(11,.int .i64 ((i:Nat):Int)),(10,.int .i64 (((Fl.cnt (Fl.ldr (Fl.ge l th) cc) i):Nat):Int)),(36,.int .i64 ((i:Nat):Int)),(35,.int .i64 ((n:Nat):Int)),(34,.slice p n cap),(8,.slice (some ⟨b2,0,none⟩) n n),(7,.int .i64 0),(6,.slice none 0 0),(3,.pointer (some ⟨b1,0,none⟩)),(1,.func (.func 57) #[] #[.pointer (some ⟨tb,0,none⟩)]),(2,.slice p2 4 c2)]) (fun x=>[rowA 3 (rI .i64) (some ⟨b2,0,none⟩) n o,boxA b1 24 [.int .i64 ((w:Nat):Int),.int .i64 ((h:Nat):Int),.int .i64 m,.slice p n cap]]) (fun x=>[atF b5 o6 [.int .i64 (l.getD i 0)],slF (rI .i64) p cap l,atF tb 0 [.int .i64 th],slF (rI2 .i64) p2 c2 (Fl.st4)]) ?_ ?_
   ·
    refine zc<|r_pv rfl rfl (zb rfl)<|r_pv rfl rfl (zb rfl)<|r_pv rfl rfl (zN (j:=i) Try.underlying22 sz3 rfl rfl rfl (by omega))<|r_vl rfl rfl (zU 0 i rfl ty3 rfl rfl (gD (d:=0) (by omega)) rfl) (fun _ hok8=> ?_)
    replace hok8:=zn.1 hok8
    refine r_pv rfl rfl (zya rfl rfl)<|zP rfl rfl (zb rfl) (fun hk1=> ?_) (fun hk1=> ?_)
    ·
     refine za rfl rfl<|za rfl rfl<|za rfl rfl<|za rfl rfl<|r_pv rfl rfl (zk rfl rfl)<|zj ?_
     exact zZ () (show True from by first|trivial|omega|simp_all) ((.e rfl (congrArg Value.bool (by exact Eq.symm (decide_eq_true (.inl (by omega))))) (.of rfl)):SubM _ _) (ho:=((.of [0,0] rfl):PickO _ _ _)) ((.of [0,1,2,3] rfl):SelR _ _ _)
    ·
     refine r_pv rfl rfl (zb rfl)<|r_pv rfl rfl (zb rfl)<|zeb (first:=[]) (cap:=[.pointer (some ⟨tb,0,none⟩)]) rfl rfl rfl (.c rfl .n) ce57 (zQb (g:=(l.getD i 0)) (th:=th) (tb:=tb)) (.c (j:=2) rfl .n) ?_
     rintro ⟨⟩ -
     dsimp only [List.append_eq,List.nil_append,List.cons_append]
     refine r_pv rfl rfl (zjb rfl)<|r_pv rfl rfl (zk rfl rfl)<|zj ?_
     exact zZ () (show True from by first|trivial|omega|simp_all) ((.e rfl (congrArg Value.bool (by exact decide_eq_decide.2 ⟨fun h9=> .inr (fun h8=>h9 ((Fl.ge_iff (by omega)).1 h8)),fun h9 h8=>h9.elim (fun h7=>h7 (by omega)) (fun h7=>h7 ((Fl.ge_iff (by omega)).2 h8))⟩)) (.of rfl)):SubM _ _) (ho:=((.of [0,0] rfl):PickO _ _ _)) ((.of [0,1,2,3] rfl):SelR _ _ _)
   ·
    rintro ⟨⟩ -
    try dsimp only
    refine zD rfl (fun hout=> ?_) (fun hout=> ?_)
    ·
     refine zfa<|zm<|zv<|ze<|zc<|r_pv rfl rfl (zy (z:=(((i+1):Nat):Int)) rfl rfl (w64 (by omega)))<|r_pv rfl rfl (zb rfl)<|zj<|zba ((i+1),o) (show (i+1)≤n∧Fl.OutI n (Fl.ge l th) cc (i+1) o from by exact ⟨by omega,(ho.none hcc (by omega) hout).1⟩) (by show n - (i+1)<n - i;omega) ((.e rfl (congrArg (Value.int .i64) (by dsimp only;rw [Fl.cnt_succ,(ho.none hcc (by omega) hout).2];simp)) (.of rfl)):SubM _ _) (ho:=((.of [0,0] rfl):PickO _ _ _)) ((.of [1,2,3] rfl):SelR _ _ _)
    ·
     refine zA<|ze<|zi<|zc<|r_pv rfl rfl (zb rfl)<|r_pv rfl rfl (zb rfl)<|r_pv rfl rfl (zb rfl)<|r_pv rfl rfl (zN (j:=i) Try.underlying22 sz3 rfl rfl rfl (by omega))<|zxa 0 rfl rfl rfl (zR (j:=i) (x0:=(((Fl.cnt (Fl.ldr (Fl.ge l th) cc) i):Nat):Int)) (γ0:=()) rfl rfl (by first|omega|(rw [List.length_map];omega)|(simp only [List.length_set];omega)|(simp;done)|(simp;omega)) rfl rfl sz3 (fun _ _=>by exact zn.2 (by omega))) (fun _=> .z) (fun _ _=> ?_)
     refine zj<|ze<|zi<|zi<|zc<|r_pv rfl rfl (zb rfl)<|zta rfl rfl (zE (enc:=fun z:Int=>[.int .i64 z]) (ok:=InK .i64) (h1:=fun _=>rfl) (h2:=fun _=>rfl) (k:=1) Try.underlying22 inf3 rfl (by decide) (by decide) (by decide) (.c (x:=((i:Nat):Int)) rfl rfl (fun _ _=>by exact zn.2 (by omega)) .n)) (fun b9 _=> ?_)
     refine r_pv rfl rfl (zd rfl)<|zj<|ze<|zz ?_
     have hfi:(Fl.ge l th) i=true:=by by_cases h9:(Fl.ge l th) i=true;exact h9;exact absurd (.inr h9) hout
     have hoi:o.getD i 0<0:=by by_cases h9:o.getD i 0<0;exact h9;exact absurd (.inl h9) hout
     have hld:=(ho.lead hcc (by omega) hoi hfi).2
     refine zma (X:=(List Int)×(List Nat)×(Option Addr)×Nat) (fun x:(List Int)×(List Nat)×(Option Addr)×Nat=>Fl.Fld n (Fl.ge l th) (Fl.nb false w n) cc i x.1 x.2.1∧2*Fl.unv x.1+x.2.1.length≤2*n+1) (fun x=>[(13,.slice (x.2.2.1) (x.2.1.length) (x.2.2.2)),(10,.int .i64 (((Fl.cnt (Fl.ldr (Fl.ge l th) cc) i):Nat):Int)),(36,.int .i64 ((i:Nat):Int)),(35,.int .i64 ((n:Nat):Int)),(34,.slice p n cap),(8,.slice (some ⟨b2,0,none⟩) n n),(7,.int .i64 0),(6,.slice none 0 0),(3,.pointer (some ⟨b1,0,none⟩)),(1,.func (.func 57) #[] #[.pointer (some ⟨tb,0,none⟩)]),(2,.slice p2 4 c2)]) (fun x=>[rowA 3 (rI .i64) (x.2.2.1) (x.2.2.2) (x.2.1.map Fl.iz),rowA 3 (rI .i64) (some ⟨b2,0,none⟩) n (x.1),boxA b1 24 [.int .i64 ((w:Nat):Int),.int .i64 ((h:Nat):Int),.int .i64 m,.slice p n cap]]) (fun x=>[atF b5 o6 [.int .i64 (l.getD i 0)],slF (rI .i64) p cap l,atF tb 0 [.int .i64 th],slF (rI2 .i64) p2 c2 (Fl.st4)]) (fun x:(List Int)×(List Nat)×(Option Addr)×Nat=>2*Fl.unv x.1+x.2.1.length) ((o.set i (((Fl.cnt (Fl.ldr (Fl.ge l th) cc) i):Nat):Int)),[i],some ⟨b9,0,none⟩,1) (show Fl.Fld n (Fl.ge l th) (Fl.nb false w n) cc i (o.set i (((Fl.cnt (Fl.ldr (Fl.ge l th) cc) i):Nat):Int)) ([i])∧2*Fl.unv (o.set i (((Fl.cnt (Fl.ldr (Fl.ge l th) cc) i):Nat):Int))+([i]).length≤2*n+1 from by exact ⟨(ho.lead hcc (by omega) hoi hfi).1,by have h9:=Fl.unv_le (o.set i ((Fl.cnt (Fl.ldr (Fl.ge l th) cc) i:Nat):Int));rw [List.length_set] at h9;simp only [List.length_cons,List.length_nil];omega⟩) ((.e rfl (by first|rfl|(congr 1;omega)|simp_all) (.of rfl)):SubM _ _) (ho:=((.e (i:=0) rfl (by first|rfl|(congr 1;omega)|simp_all) (.of [0,0] rfl)):PickO _ _ _)) ((.of [0,1,2,3] rfl):SelR _ _ _) ?_
     rintro ⟨o2,sk,p4,c4⟩ hFF
     replace hFF:Fl.Fld n (Fl.ge l th) (Fl.nb false w n) cc i o2 sk∧2*Fl.unv o2+sk.length≤2*n+1:=hFF
     try dsimp only
     obtain ⟨hF,hFm⟩:=hFF
     have ho2:=hF.len
     refine zi<|zi<|zc<|r_pv rfl rfl (zb rfl)<|r_pv rfl rfl (zM Try.underlying22 rfl)<|r_pv rfl rfl (zwa rfl rfl)<|zj<|ze<|zD rfl (fun hso=> ?_) (fun hso=> ?_)
     ·
      obtain ⟨st,pp,rfl⟩:=Fl.snoc (sk:=sk) (fun e9=>by rw [e9] at hso;simp at hso)
      have hsl9:st.length+1≤2*n+1:=by have h8:=hFm;rw [List.length_append] at h8;simp only [List.length_cons,List.length_nil] at h8;omega
      have hsl8:((st++[pp]).map Fl.iz).length=st.length+1:=by simp
      refine zEc 0 rfl (fun hcl=> ?_)
      have e10:(.slice p4 ((st++[pp]).length) c4:Value)= .slice p4 (st.length+1) c4:=by simp
      rw [e10]
      refine zA<|ze<|zz<|zi<|zc<|r_pv rfl rfl (zb rfl)<|r_pv rfl rfl (zb rfl)<|r_pv rfl rfl (zM Try.underlying22 rfl)<|r_pv rfl rfl (zda (z:=(((st.length):Nat):Int)) rfl rfl (w64 (by omega)))<|r_u rfl rfl (zia 0 (st.length) rfl Try.underlying22 sz3 rfl (by first|rfl|assumption|(simp only [List.length_append,List.length_map,List.length_cons,List.length_nil];done)|(simp only [List.length_append,List.length_map,List.length_cons,List.length_nil];omega)|omega) rfl rfl (by omega))<|r_vl rfl rfl (zU 0 (st.length) rfl ty3 rfl rfl (gD (d:=0) (by omega)) rfl) (fun _ hok11=> ?_)
      replace hok11:=zn.1 hok11
      refine r_pv rfl rfl (zd rfl)<|zj<|ze<|zi ?_
      have e12:((((st++[pp]).map Fl.iz).getD (st.length) 0):Int)=((pp:Nat):Int):=by exact Fl.getD_iz st pp
      rw [e12]
      refine zc<|r_pv rfl rfl (zb rfl)<|r_pv rfl rfl (zb rfl)<|r_pv rfl rfl (zM Try.underlying22 rfl)<|r_pv rfl rfl (zda (z:=(((st.length):Nat):Int)) rfl rfl (w64 (by omega)))<|r_pv rfl rfl (zZa (hi:=(st.length)) Try.underlying22 sz3 rfl (.s rfl) (.inr ⟨_,rfl⟩) (by omega))<|r_pv rfl rfl (zd rfl)<|zj<|ze<|zi<|c_mem (fun w mm=>mm.rowTake 0 rfl (st.length)) ?_
      dsimp only [List.set]
      have e13:((st++[pp]).map Fl.iz).take (st.length)=st.map Fl.iz:=by simp
      rw [e13]
      refine zc<|r_pv rfl rfl (zb rfl)<|r_pv rfl rfl (zM Try.underlying75 rfl)<|r_pv rfl rfl (zb rfl)<|zj<|ze<|zz<|zma (X:=Nat×(List Int)×(List Nat)×(Option Addr)×Nat) (fun x:Nat×(List Int)×(List Nat)×(Option Addr)×Nat=>x.1≤4∧Fl.FlP n (Fl.ge l th) (Fl.nb false w n) cc i x.2.1 x.2.2.1 pp (Fl.Dst w h pp Fl.st4 x.1)∧2*Fl.unv x.2.1+x.2.2.1.length≤2*Fl.unv o2+st.length) (fun x=>[(13,.slice (x.2.2.2.1) (x.2.2.1.length) (x.2.2.2.2)),(74,.int .i64 ((x.1:Nat):Int)),(73,.int .i64 4),(72,.slice p2 4 c2),(14,.int .i64 ((pp:Nat):Int)),(10,.int .i64 (((Fl.cnt (Fl.ldr (Fl.ge l th) cc) i):Nat):Int)),(36,.int .i64 ((i:Nat):Int)),(35,.int .i64 ((n:Nat):Int)),(34,.slice p n cap),(8,.slice (some ⟨b2,0,none⟩) n n),(7,.int .i64 0),(6,.slice none 0 0),(3,.pointer (some ⟨b1,0,none⟩)),(1,.func (.func 57) #[] #[.pointer (some ⟨tb,0,none⟩)]),(2,.slice p2 4 c2)]) (fun x=>[rowA 3 (rI .i64) (x.2.2.2.1) (x.2.2.2.2) (x.2.2.1.map Fl.iz),rowA 3 (rI .i64) (some ⟨b2,0,none⟩) n (x.2.1),boxA b1 24 [.int .i64 ((w:Nat):Int),.int .i64 ((h:Nat):Int),.int .i64 m,.slice p n cap]]) (fun x=>[atF b5 o6 [.int .i64 (l.getD i 0)],slF (rI .i64) p cap l,atF tb 0 [.int .i64 th],slF (rI2 .i64) p2 c2 (Fl.st4)]) (fun x:Nat×(List Int)×(List Nat)×(Option Addr)×Nat=>4 - x.1) (0,o2,st,p4,c4) (show 0≤4∧Fl.FlP n (Fl.ge l th) (Fl.nb false w n) cc i o2 st pp (Fl.Dst w h pp Fl.st4 0)∧2*Fl.unv o2+st.length≤2*Fl.unv o2+st.length from by exact ⟨Nat.zero_le _,Fl.FlP.start hF,Nat.le_refl _⟩) ((.c rfl (.e rfl (by first|rfl|(congr 1;omega)|simp_all) (.of rfl))):SubM _ _) (ho:=((.of [0,0,0] rfl):PickO _ _ _)) ((.of [0,1,2,3] rfl):SelR _ _ _) ?_
      rintro ⟨q,o3,s3,p5,c5⟩ hQ
      replace hQ:q≤4∧Fl.FlP n (Fl.ge l th) (Fl.nb false w n) cc i o3 s3 pp (Fl.Dst w h pp Fl.st4 q)∧2*Fl.unv o3+s3.length≤2*Fl.unv o2+st.length:=hQ
      try dsimp only
      obtain ⟨hq,hP1,hP2⟩:=hQ
      have ho3:=hP1.len
      refine zi<|zc<|r_pv rfl rfl (zW rfl rfl)<|zj<|ze<|zi<|zD rfl (fun h14=> ?_) (fun h14=> ?_)
      ·
       have hst9:Fl.st4.length=4:=rfl
       have hd9:=Fl.stp4.ok _ (Fl.gD_mem (l:=Fl.st4) (q:=q) (by show q<4;omega))
       have hpb:=Fl.at_b hw hP1.pop.1 hb hd9.1 hd9.2.1
       refine zA<|ze<|zi<|zz<|zi<|zc<|zQ (x0:=(Fl.st4.getD q (0,0))) 3 q rfl Try.underlying75 sz90 rfl rfl rfl (by first|rfl|assumption|(simp only [List.length_append,List.length_map,List.length_cons,List.length_nil];done)|(simp only [List.length_append,List.length_map,List.length_cons,List.length_nil];omega)|omega) rfl rfl (gD (d:=(0,0)) (by omega)) (fun b15 o16 hok17=> ?_)
       obtain ⟨hok17x,hok17y⟩:=hok17
       replace hok17x:=zn.1 hok17x
       replace hok17y:=zn.1 hok17y
       refine r_u rfl rfl (zJa (j:=0) 0 ty90 rfl rfl rfl (.take (.take .nil)))<|zS rfl rfl (zG zr90 rfl) (fun b18=> ?_)
       refine zo 0 rfl rfl rfl rfl rfl sz90 rfl (.take (.take .nil)) .z<|zj<|ze<|zi<|zja (OW:=[]) (O:=[boxA b18 90 [.int .i64 ((Fl.st4.getD q (0,0)).1),.int .i64 ((Fl.st4.getD q (0,0)).2)],rowA 3 (rI .i64) p5 c5 (s3.map Fl.iz),rowA 3 (rI .i64) (some ⟨b2,0,none⟩) n o3,boxA b1 24 [.int .i64 ((w:Nat):Int),.int .i64 ((h:Nat):Int),.int .i64 m,.slice p n cap]]) 100000 mixed (.then (.block (.then (.then (.block (.block (.then (.block (.then (.block (.then (.then (.block (.then .ret)))))))))))))) (by kernel_rfl)<|d_pv 0 rfl rfl (by kernel_rfl) (by kernel_rfl) rfl rfl (zb rfl)<|d_pv 1 rfl rfl (by kernel_rfl) (by kernel_rfl) rfl rfl (zg Try.underlying24 rfl sz3 rfl rfl)<|d_u 2 rfl rfl (by kernel_rfl) (by kernel_rfl) rfl rfl (zf 3 ty3 rfl rfl rfl)<|d_pv 3 rfl rfl (by kernel_rfl) (by kernel_rfl) rfl rfl (zHa (z:=(((pp%w):Nat):Int)) rfl rfl (by omega) (remN (by omega) (by omega)))<|d_pv 4 rfl rfl (by kernel_rfl) (by kernel_rfl) rfl rfl (zKa (i:=0) Try.underlying90 sz3 rfl rfl (by decide) rfl)<|d_u 5 rfl rfl (by kernel_rfl) (by kernel_rfl) rfl rfl (zf 0 ty3 rfl rfl rfl)<|d_pv 6 rfl rfl (by kernel_rfl) (by kernel_rfl) rfl rfl (zy (z:=((((pp%w):Nat):Int)+(Fl.st4.getD q (0,0)).1)) rfl rfl (w64 (by omega)))<|d_pv 7 rfl rfl (by kernel_rfl) (by kernel_rfl) rfl rfl (zb rfl)<|d_pv 8 rfl rfl (by kernel_rfl) (by kernel_rfl) rfl rfl (zg Try.underlying24 rfl sz3 rfl rfl)<|d_u 9 rfl rfl (by kernel_rfl) (by kernel_rfl) rfl rfl (zf 3 ty3 rfl rfl rfl)<|d_pv 10 rfl rfl (by kernel_rfl) (by kernel_rfl) rfl rfl (zGa (z:=(((pp / w):Nat):Int)) rfl rfl (by omega) (by rw [quoN (z:=(((pp / w):Nat):Int)) (by omega) (by omega)];exact w64 (by omega)))<|d_pv 11 rfl rfl (by kernel_rfl) (by kernel_rfl) rfl rfl (zKa (i:=1) Try.underlying90 sz3 rfl rfl (by decide) rfl)<|d_u 12 rfl rfl (by kernel_rfl) (by kernel_rfl) rfl rfl (zf 0 ty3 rfl rfl rfl)<|d_pv 13 rfl rfl (by kernel_rfl) (by kernel_rfl) rfl rfl (zy (z:=((((pp / w):Nat):Int)+(Fl.st4.getD q (0,0)).2)) rfl rfl (w64 (by omega)))<|d_pv 14 rfl rfl (by kernel_rfl) (by kernel_rfl) rfl rfl (zd rfl)<|d_pv 15 rfl rfl (by kernel_rfl) (by kernel_rfl) rfl rfl (zd rfl)<|zga (by kernel_rfl)<|ze<|zi ?_
       obtain ⟨kx,hkx⟩:∃z,z=((((pp%w):Nat):Int)+(Fl.st4.getD q (0,0)).1):=⟨_,rfl⟩
       rw [← hkx]
       obtain ⟨ky,hky⟩:∃z,z=((((pp / w):Nat):Int)+(Fl.st4.getD q (0,0)).2):=⟨_,rfl⟩
       rw [← hky]
       have hkyw: -64≤ky*((w:Nat):Int)∧ky*((w:Nat):Int)≤4160:=by rw [hky];exact hpb.1
       have hkxb: -1≤kx∧kx≤64:=by rw [hkx];exact hpb.2.1
       refine zc<|r_pv rfl rfl (zb rfl)<|r_pv rfl rfl (zg Try.underlying24 rfl sz3 rfl rfl)<|r_u rfl rfl (zf 3 ty3 rfl rfl rfl)<|r_pv rfl rfl (zla (z:=(ky*((w:Nat):Int))) rfl rfl (w64 (by omega)))<|r_pv rfl rfl (zb rfl)<|r_pv rfl rfl (zy (z:=((ky*((w:Nat):Int))+kx)) rfl rfl (w64 (by omega)))<|r_pv rfl rfl (zd rfl)<|zj<|ze ?_
       obtain ⟨kj,hkj⟩:∃z,z=((ky*((w:Nat):Int))+kx):=⟨_,rfl⟩
       rw [← hkj]
       refine zFa (X:=Unit) (fun x=>True) (fun x=>[(131,.bool (decide (Fl.CP w h pp (Fl.ge l th) o3 (Fl.st4.getD q (0,0))))),(19,.int .i64 kj),(13,.slice p5 (s3.length) c5),(74,.int .i64 ((q:Nat):Int)),(73,.int .i64 4),(72,.slice p2 4 c2),(14,.int .i64 ((pp:Nat):Int)),(10,.int .i64 (((Fl.cnt (Fl.ldr (Fl.ge l th) cc) i):Nat):Int)),(36,.int .i64 ((i:Nat):Int)),(35,.int .i64 ((n:Nat):Int)),(34,.slice p n cap),(8,.slice (some ⟨b2,0,none⟩) n n),(7,.int .i64 0),(6,.slice none 0 0),(3,.pointer (some ⟨b1,0,none⟩)),(1,.func (.func 57) #[] #[.pointer (some ⟨tb,0,none⟩)]),(2,.slice p2 4 c2)]) (fun x=>[boxA b18 90 [.int .i64 ((Fl.st4.getD q (0,0)).1),.int .i64 ((Fl.st4.getD q (0,0)).2)],rowA 3 (rI .i64) p5 c5 (s3.map Fl.iz),rowA 3 (rI .i64) (some ⟨b2,0,none⟩) n o3,boxA b1 24 [.int .i64 ((w:Nat):Int),.int .i64 ((h:Nat):Int),.int .i64 m,.slice p n cap]]) (fun x=>[atF b15 o16 [.int .i64 ((Fl.st4.getD q (0,0)).1),.int .i64 ((Fl.st4.getD q (0,0)).2)],atF b5 o6 [.int .i64 (l.getD i 0)],slF (rI .i64) p cap l,atF tb 0 [.int .i64 th],slF (rI2 .i64) p2 c2 (Fl.st4)]) ?_ ?_
       ·
        refine zc<|r_pv rfl rfl (zb rfl)<|r_pv rfl rfl (zya rfl rfl)<|zP rfl rfl (zb rfl) (fun hx0=> ?_) (fun hx0=> ?_)
        ·
         refine r_pv rfl rfl (zb rfl)<|r_pv rfl rfl (zya rfl rfl)<|r_pv rfl rfl (zk rfl rfl)<|zP rfl rfl (zb rfl) (fun hx1=> ?_) (fun hx1=> ?_)
         ·
          refine r_pv rfl rfl (zb rfl)<|r_pv rfl rfl (zg Try.underlying24 rfl sz3 rfl rfl)<|r_u rfl rfl (zf 3 ty3 rfl rfl rfl)<|r_pv rfl rfl (zW rfl rfl)<|r_pv rfl rfl (zk rfl rfl)<|zP rfl rfl (zb rfl) (fun hx2=> ?_) (fun hx2=> ?_)
          ·
           refine r_pv rfl rfl (zb rfl)<|r_pv rfl rfl (zg Try.underlying24 rfl sz3 rfl rfl)<|r_u rfl rfl (zf 3 ty3 rfl rfl rfl)<|r_pv rfl rfl (zW rfl rfl)<|r_pv rfl rfl (zk rfl rfl)<|zP rfl rfl (zb rfl) (fun hx3=> ?_) (fun hx3=> ?_)
           ·
            have hat:kj.toNat=Fl.atD w pp (Fl.st4.getD q (0,0)):=by rw [hkj,hky,hkx];rfl
            have hiD:Fl.inD w h pp (Fl.st4.getD q (0,0)):=⟨hkx ▸ hx0,hky ▸ hx1,hkx ▸ hx2,hky ▸ hx3⟩
            have hpx:=hiD.pix
            have hkj0:0≤kj∧kj.toNat<n:=⟨by rw [hkj,hky,hkx];exact hpx.1,by rw [hat,hwh];exact hpx.2⟩
            refine r_pv rfl rfl (zb rfl)<|r_pv rfl rfl (zb rfl)<|r_pv rfl rfl (zN (j:=(kj).toNat) Try.underlying22 sz3 rfl rfl (by omega) (by omega))<|r_vl rfl rfl (zU 2 ((kj).toNat) rfl ty3 rfl rfl (gD (d:=0) (by omega)) rfl) (fun _ hok19=> ?_)
            replace hok19:=zn.1 hok19
            refine r_pv rfl rfl (zW rfl rfl)<|r_pv rfl rfl (zk rfl rfl)<|zP rfl rfl (zb rfl) (fun hx4=> ?_) (fun hx4=> ?_)
            ·
             refine r_pv rfl rfl (zb rfl)<|r_pv rfl rfl (zg Try.underlying24 rfl sz22 rfl rfl)<|r_u rfl rfl (zf 3 ty22 rfl rfl rfl)<|r_pv rfl rfl (zb rfl)<|zQ (x0:=(l.getD ((kj).toNat) 0)) 2 ((kj).toNat) rfl Try.underlying22 sz3 rfl rfl rfl (by first|rfl|assumption|(simp only [List.length_append,List.length_map,List.length_cons,List.length_nil];done)|(simp only [List.length_append,List.length_map,List.length_cons,List.length_nil];omega)|omega) rfl (by omega) (gD (d:=0) (by omega)) (fun b20 o21 hok22=> ?_)
             replace hok22:=zn.1 hok22
             refine r_u rfl rfl (zl (j:=0) 0 ty3 rfl rfl rfl rfl)<|zeb (first:=[]) (cap:=[.pointer (some ⟨tb,0,none⟩)]) rfl rfl rfl (.c rfl .n) ce57 (zQb (g:=(l.getD ((kj).toNat) 0)) (th:=th) (tb:=tb)) (.c (j:=4) rfl .n) ?_
             rintro ⟨⟩ -
             dsimp only [List.append_eq,List.nil_append,List.cons_append]
             refine r_pv rfl rfl (zk rfl rfl)<|zj ?_
             exact zZ () (show True from by first|trivial|omega|simp_all) ((.e rfl (congrArg Value.bool (by exact decide_eq_decide.2 ⟨fun h9=>⟨hiD,by rw [← hat];exact hx4,by rw [← hat];exact (Fl.ge_iff (by omega)).2 h9⟩,fun h9=>(Fl.ge_iff (by omega)).1 (by rw [hat];exact h9.2.2)⟩)) (.of rfl)):SubM _ _) (ho:=((.of [0,0,0,0] rfl):PickO _ _ _)) ((.of [1,2,3,4,5] rfl):SelR _ _ _)
            ·
             refine za rfl rfl<|za rfl rfl<|za rfl rfl<|za rfl rfl<|za rfl rfl<|za rfl rfl<|za rfl rfl<|r_pv rfl rfl (zk rfl rfl)<|zj ?_
             exact zZ () (show True from by first|trivial|omega|simp_all) ((.e rfl (congrArg Value.bool (by exact Eq.symm (decide_eq_false (fun h9=>hx4 (by rw [hat];exact h9.2.1))))) (.of rfl)):SubM _ _) (ho:=((.of [0,0,0,0] rfl):PickO _ _ _)) ((.of [0,1,2,3,4] rfl):SelR _ _ _)
           ·
            refine za rfl rfl<|za rfl rfl<|za rfl rfl<|za rfl rfl<|za rfl rfl<|r_pv rfl rfl (zk rfl rfl)<|r_pv rfl rfl (zb rfl)<|za rfl rfl<|za rfl rfl<|za rfl rfl<|za rfl rfl<|za rfl rfl<|za rfl rfl<|za rfl rfl<|r_pv rfl rfl (zk rfl rfl)<|zj ?_
            exact zZ () (show True from by first|trivial|omega|simp_all) ((.e rfl (congrArg Value.bool (by exact Eq.symm (decide_eq_false (fun h9=>hx3 (by rw [hky];exact h9.1.2.2.2))))) (.of rfl)):SubM _ _) (ho:=((.of [0,0,0,0] rfl):PickO _ _ _)) ((.of [0,1,2,3,4] rfl):SelR _ _ _)
          ·
           refine za rfl rfl<|za rfl rfl<|za rfl rfl<|za rfl rfl<|r_pv rfl rfl (zk rfl rfl)<|r_pv rfl rfl (zb rfl)<|za rfl rfl<|za rfl rfl<|za rfl rfl<|za rfl rfl<|za rfl rfl<|r_pv rfl rfl (zk rfl rfl)<|r_pv rfl rfl (zb rfl)<|za rfl rfl<|za rfl rfl<|za rfl rfl<|za rfl rfl<|za rfl rfl<|za rfl rfl<|za rfl rfl<|r_pv rfl rfl (zk rfl rfl)<|zj ?_
           exact zZ () (show True from by first|trivial|omega|simp_all) ((.e rfl (congrArg Value.bool (by exact Eq.symm (decide_eq_false (fun h9=>hx2 (by rw [hkx];exact h9.1.2.2.1))))) (.of rfl)):SubM _ _) (ho:=((.of [0,0,0,0] rfl):PickO _ _ _)) ((.of [0,1,2,3,4] rfl):SelR _ _ _)
         ·
          refine za rfl rfl<|za rfl rfl<|za rfl rfl<|za rfl rfl<|r_pv rfl rfl (zk rfl rfl)<|r_pv rfl rfl (zb rfl)<|za rfl rfl<|za rfl rfl<|za rfl rfl<|za rfl rfl<|r_pv rfl rfl (zk rfl rfl)<|r_pv rfl rfl (zb rfl)<|za rfl rfl<|za rfl rfl<|za rfl rfl<|za rfl rfl<|za rfl rfl<|r_pv rfl rfl (zk rfl rfl)<|r_pv rfl rfl (zb rfl)<|za rfl rfl<|za rfl rfl<|za rfl rfl<|za rfl rfl<|za rfl rfl<|za rfl rfl<|za rfl rfl<|r_pv rfl rfl (zk rfl rfl)<|zj ?_
          exact zZ () (show True from by first|trivial|omega|simp_all) ((.e rfl (congrArg Value.bool (by exact Eq.symm (decide_eq_false (fun h9=>hx1 (by rw [hky];exact h9.1.2.1))))) (.of rfl)):SubM _ _) (ho:=((.of [0,0,0,0] rfl):PickO _ _ _)) ((.of [0,1,2,3,4] rfl):SelR _ _ _)
        ·
         refine za rfl rfl<|za rfl rfl<|r_pv rfl rfl (zk rfl rfl)<|r_pv rfl rfl (zb rfl)<|za rfl rfl<|za rfl rfl<|za rfl rfl<|za rfl rfl<|r_pv rfl rfl (zk rfl rfl)<|r_pv rfl rfl (zb rfl)<|za rfl rfl<|za rfl rfl<|za rfl rfl<|za rfl rfl<|r_pv rfl rfl (zk rfl rfl)<|r_pv rfl rfl (zb rfl)<|za rfl rfl<|za rfl rfl<|za rfl rfl<|za rfl rfl<|za rfl rfl<|r_pv rfl rfl (zk rfl rfl)<|r_pv rfl rfl (zb rfl)<|za rfl rfl<|za rfl rfl<|za rfl rfl<|za rfl rfl<|za rfl rfl<|za rfl rfl<|za rfl rfl<|r_pv rfl rfl (zk rfl rfl)<|zj ?_
         exact zZ () (show True from by first|trivial|omega|simp_all) ((.e rfl (congrArg Value.bool (by exact Eq.symm (decide_eq_false (fun h9=>hx0 (by rw [hkx];exact h9.1.1))))) (.of rfl)):SubM _ _) (ho:=((.of [0,0,0,0] rfl):PickO _ _ _)) ((.of [0,1,2,3,4] rfl):SelR _ _ _)
       ·
        rintro ⟨⟩ -
        try dsimp only
        refine zD rfl (fun hc=> ?_) (fun hc=> ?_)
        ·
         have hat:kj.toNat=Fl.atD w pp (Fl.st4.getD q (0,0)):=by rw [hkj,hky,hkx];rfl
         have hpx:=hc.1.pix
         have hkj0:0≤kj∧kj.toNat<n:=⟨by rw [hkj,hky,hkx];exact hpx.1,by rw [hat,hwh];exact hpx.2⟩
         refine zi<|zc<|r_pv rfl rfl (zb rfl)<|r_pv rfl rfl (zb rfl)<|r_pv rfl rfl (zb rfl)<|r_pv rfl rfl (zN (j:=(kj).toNat) Try.underlying22 sz3 rfl rfl (by omega) (by omega))<|zxa 2 rfl rfl rfl (zR (j:=(kj).toNat) (x0:=(((Fl.cnt (Fl.ldr (Fl.ge l th) cc) i):Nat):Int)) (γ0:=()) rfl rfl (by first|omega|(rw [List.length_map];omega)|(simp only [List.length_set];omega)|(simp;done)|(simp;omega)) rfl rfl sz3 (fun _ _=>by exact zn.2 (by omega))) (fun _=>(.s (.s .z))) (fun _ _=> ?_)
         refine zj<|ze<|zc<|r_pv rfl rfl (zb rfl)<|r_pv rfl rfl (zb rfl)<|zta rfl rfl (zE (enc:=fun z:Int=>[.int .i64 z]) (ok:=InK .i64) (h1:=fun _=>rfl) (h2:=fun _=>rfl) (k:=1) Try.underlying22 inf3 rfl (by decide) (by decide) (by decide) (.c (x:=kj) rfl rfl (fun _ _=>by exact zn.2 (by omega)) .n)) (fun b23 _=> ?_)
         refine zea 0 rfl .z<|zxa 2 rfl rfl rfl (zra 0 rfl Try.underlying22 inf3 (by decide) rfl rfl (by first|rfl|assumption|(simp only [List.length_append,List.length_map,List.length_cons,List.length_nil];done)|(simp only [List.length_append,List.length_map,List.length_cons,List.length_nil];omega)|omega) rfl (by first|rfl|assumption|(simp only [List.length_append,List.length_map,List.length_cons,List.length_nil];done)|(simp only [List.length_append,List.length_map,List.length_cons,List.length_nil];omega)|omega) (by omega) (by omega)) (fun _=>(.s (.s .z))) ?_
         rintro ⟨p24,c25⟩ -
         dsimp only [List.append_eq,List.nil_append,List.cons_append]
         refine r_pv rfl rfl (zd rfl)<|zj<|zJ<|ze<|zc<|r_pv rfl rfl (zy (z:=(((q+1):Nat):Int)) rfl rfl (w64 (by omega)))<|r_pv rfl rfl (zb rfl)<|zj<|zba ((q+1),(o3.set ((kj).toNat) (((Fl.cnt (Fl.ldr (Fl.ge l th) cc) i):Nat):Int)),(s3++[(kj).toNat]),p24,c25) (show (q+1)≤4∧Fl.FlP n (Fl.ge l th) (Fl.nb false w n) cc i (o3.set ((kj).toNat) (((Fl.cnt (Fl.ldr (Fl.ge l th) cc) i):Nat):Int)) (s3++[(kj).toNat]) pp (Fl.Dst w h pp Fl.st4 (q+1))∧2*Fl.unv (o3.set ((kj).toNat) (((Fl.cnt (Fl.ldr (Fl.ge l th) cc) i):Nat):Int))+(s3++[(kj).toNat]).length≤2*Fl.unv o2+st.length from by have h9:=hP1.yes Fl.stp4 hwh (by show q<4;omega) hcc hc.1 hc.2.1 hc.2.2;rw [← hat] at h9;exact ⟨by omega,h9.1,by omega⟩) (by show 4 - (q+1)<4 - q;omega) ((.e rfl (by simp) (.of rfl)):SubM _ _) (ho:=((.e (i:=2) rfl (by first|rfl|(dsimp only;rw [List.map_append,List.map_cons,List.map_nil,show Fl.iz ((kj).toNat)=kj by unfold Fl.iz;omega])) (.of [2,2] rfl)):PickO _ _ _)) ((.of [2,3,4,5] rfl):SelR _ _ _)
        ·
         refine zA<|zJ<|ze<|zc<|r_pv rfl rfl (zy (z:=(((q+1):Nat):Int)) rfl rfl (w64 (by omega)))<|r_pv rfl rfl (zb rfl)<|zj<|zba ((q+1),o3,s3,p5,c5) (show (q+1)≤4∧Fl.FlP n (Fl.ge l th) (Fl.nb false w n) cc i o3 s3 pp (Fl.Dst w h pp Fl.st4 (q+1))∧2*Fl.unv o3+s3.length≤2*Fl.unv o2+st.length from by exact ⟨by omega,hP1.no Fl.stp4 hwh (by show q<4;omega) hcc hc,hP2⟩) (by show 4 - (q+1)<4 - q;omega) ((.of rfl):SubM _ _) (ho:=((.of [1,1,1] rfl):PickO _ _ _)) ((.of [1,2,3,4] rfl):SelR _ _ _)
      ·
       refine zfa<|zm<|zm<|zv<|zJ<|zba (o3,s3,p5,c5) (show Fl.Fld n (Fl.ge l th) (Fl.nb false w n) cc i o3 s3∧2*Fl.unv o3+s3.length≤2*n+1 from by refine ⟨?_,?_⟩;(have h9:q=4:=(by omega));subst h9;exact hP1.end_ Fl.stp4 (by omega) hwh;have h8:=hFm;rw [List.length_append] at h8;simp only [List.length_cons,List.length_nil] at h8;omega) (by have h9:=hP2;rw [List.length_append];simp only [List.length_cons,List.length_nil];omega) ((.of rfl):SubM _ _) (ho:=((.of [0,0,0] rfl):PickO _ _ _)) ((.of [0,1,2,3] rfl):SelR _ _ _)
     ·
      refine zfa<|zm<|zm<|zv<|ze<|zc<|r_pv rfl rfl (zb rfl)<|r_pv rfl rfl (zy (z:=((((Fl.cnt (Fl.ldr (Fl.ge l th) cc) i)+1):Nat):Int)) rfl rfl (w64 (by omega)))<|r_pv rfl rfl (zd rfl)<|zj<|zJ<|ze<|zc<|r_pv rfl rfl (zy (z:=(((i+1):Nat):Int)) rfl rfl (w64 (by omega)))<|r_pv rfl rfl (zb rfl)<|zj<|zba ((i+1),o2) (show (i+1)≤n∧Fl.OutI n (Fl.ge l th) cc (i+1) o2 from by exact ⟨by omega,(by have h9:sk=[]:=(by cases sk with|nil=>rfl|cons a t=>simp at hso);subst h9;exact hF.fin hcc (fun _ _=>Fl.nb_symm) (fun _ _ h8=>Fl.nb_lt h8) (by omega) hfi)⟩) (by show n - (i+1)<n - i;omega) ((.e rfl (congrArg (Value.int .i64) (by dsimp only;rw [Fl.cnt_succ,hld];simp)) (.of rfl)):SubM _ _) (ho:=((.of [1,1] rfl):PickO _ _ _)) ((.of [1,2,3] rfl):SelR _ _ _)
  ·
   refine zfa<|zm<|zm<|zv<|ze<|zi<|zc<|r_pv rfl rfl (zb rfl)<|r_pv rfl rfl (zb rfl)<|r_pv rfl rfl (zd rfl)<|r_pv rfl rfl (zd rfl)<|zj<|ze<|zI ?_
   have hin8:i=n:=by omega
   rw [hin8] at ho
   refine zPa 0 rfl .z ?_
   exact zva Try.results36 (some ⟨b2,0,none⟩,n,o,cc) (⟨hcc,ho⟩) (zq rfl) (zq rfl) (by rw [hin8]) (ho:=(.n:PickO _ _ _)) ((.c (j:=0) rfl .n):SelR _ _ _)
theorem zUc {w:Nat} {h:Nat} {m:Int} {p:Option Addr} {n:Nat} {cap:Nat} {l:List Int} {tb:Nat} {th:Int} {p2:Option Addr} {c2:Nat} (hn:l.length=n) (hw:1≤w∧w≤64) (hh:1≤h∧h≤64) (hwh:n=w*h) (hb:n≤4096):Con Try.prog 36 [.agg #[.int .i64 ((w:Nat):Int),.int .i64 ((h:Nat):Int),.int .i64 m,.slice p n cap],.func (.func 37) #[] #[.pointer (some ⟨tb,0,none⟩)],.slice p2 8 c2] [] [slF (rI .i64) p cap l,atF tb 0 [.int .i64 th],slF (rI2 .i64) p2 c2 (Fl.st8)] (Y:=(Option Addr)×Nat×(List Int)×(Nat→Nat)) (fun y=>Fl.Lst (fun j=>(Fl.lo l th) j=true) (Fl.nb true w n) y.2.2.2∧Fl.OutI n (Fl.lo l th) y.2.2.2 n y.2.2.1) (fun y=> .tuple #[.slice (y.1) n (y.2.1),.int .i64 (((Fl.cnt (Fl.ldr (Fl.lo l th) y.2.2.2) n):Nat):Int)]) (fun y=>[]) (fun y=>[slF (rI .i64) (y.1) (y.2.1) (y.2.2.1)]):=by
 refine zr Try.func36 rfl rfl rfl (fun c=> ?_)
 show RunC _ _ _ _ _ [(0,.agg #[.int .i64 ((w:Nat):Int),.int .i64 ((h:Nat):Int),.int .i64 m,.slice p n cap]),(1,.func (.func 37) #[] #[.pointer (some ⟨tb,0,none⟩)]),(2,.slice p2 8 c2)] [] [slF (rI .i64) p cap l,atF tb 0 [.int .i64 th],slF (rI2 .i64) p2 c2 (Fl.st8)]
 refine zca 0 rfl (fun hL0=> ?_)
 refine zca 2 rfl (fun hL2=> ?_)
 obtain ⟨cc,hcc⟩:=Fl.Lst.exists (inn:=fun j=>(Fl.lo l th) j=true) (adj:=(Fl.nb true w n)) (fun _ _=>Fl.nb_symm)
 have hin:∀j,(Fl.lo l th) j=true→j<n:=fun j hj=>by have:=Fl.lo_lt hj;omega
 refine zi<|zc<|zS rfl rfl (zX rfl rfl) (fun b1=> ?_)
 refine r_pv rfl rfl (zd rfl)<|r_pv rfl rfl (zd rfl)<|zj<|ze<|zi<|zc<|r_pv rfl rfl (zg Try.underlying24 rfl sz22 rfl rfl)<|r_u rfl rfl (zf 0 ty22 rfl rfl rfl)<|r_pv rfl rfl (zM Try.underlying22 rfl)<|zta rfl rfl (zWa (r:=rI .i64) (k:=n) (x0:=0) (γ0:=()) Try.underlying22 inf3 rfl rfl rfl rfl (by omega) (by omega) rfl (fun g _=>by exact zn.2 (by decide)) (by decide)) (fun b2 _=> ?_)
 refine r_pv rfl rfl (zd rfl)<|zj<|ze<|zi<|zi<|zc<|r_pv rfl rfl (zb rfl)<|r_pv rfl rfl (zM Try.underlying22 rfl)<|r_pv rfl rfl (zb rfl)<|zj<|ze<|zz<|zma (X:=Nat×(List Int)) (fun x:Nat×(List Int)=>x.1≤n∧x.2.length=n∧∀j,j<x.1→x.2.getD j 0= -1) (fun x=>[(26,.int .i64 ((x.1:Nat):Int)),(25,.int .i64 ((n:Nat):Int)),(8,.slice (some ⟨b2,0,none⟩) n n),(7,.int .i64 0),(6,.slice none 0 0),(3,.pointer (some ⟨b1,0,none⟩)),(1,.func (.func 37) #[] #[.pointer (some ⟨tb,0,none⟩)]),(2,.slice p2 8 c2)]) (fun x=>[rowA 3 (rI .i64) (some ⟨b2,0,none⟩) n (x.2),boxA b1 24 [.int .i64 ((w:Nat):Int),.int .i64 ((h:Nat):Int),.int .i64 m,.slice p n cap]]) (fun x=>[slF (rI .i64) p cap l,atF tb 0 [.int .i64 th],slF (rI2 .i64) p2 c2 (Fl.st8)]) (fun x:Nat×(List Int)=>n - x.1) (0,List.replicate n 0) (show 0≤n∧(List.replicate n 0).length=n∧∀j,j<0→(List.replicate n 0).getD j 0= -1 from by exact ⟨Nat.zero_le _,by simp,fun j hj=>by omega⟩) ((.e rfl (by first|rfl|(congr 1;omega)|simp_all) (.of rfl)):SubM _ _) (ho:=((.of [0,0] rfl):PickO _ _ _)) ((.of [0,1,2] rfl):SelR _ _ _) ?_
 rintro ⟨i,A⟩ hI
 replace hI:i≤n∧A.length=n∧∀j,j<i→A.getD j 0= -1:=hI
 try dsimp only
 obtain ⟨hi,hAl,hA⟩:=hI
 refine zi<|zc<|r_pv rfl rfl (zW rfl rfl)<|zj<|ze<|zi<|zD rfl (fun h3=> ?_) (fun h3=> ?_)
 ·
  refine zA<|ze<|zi<|zz<|zi<|zc<|r_pv rfl rfl (zb rfl)<|r_pv rfl rfl (zd rfl)<|zj<|ze<|zc<|r_pv rfl rfl (zb rfl)<|r_pv rfl rfl (zb rfl)<|r_pv rfl rfl (zN (j:=i) Try.underlying22 sz3 rfl rfl rfl (by omega))<|zxa 0 rfl rfl rfl (zR (j:=i) (x0:=(-1)) (γ0:=()) rfl rfl (by first|omega|(rw [List.length_map];omega)|(simp only [List.length_set];omega)|(simp;done)|(simp;omega)) rfl rfl sz3 (fun _ _=>by exact zn.2 (by omega))) (fun _=> .z) (fun _ _=> ?_)
  refine zj<|zJ<|ze<|zc<|r_pv rfl rfl (zy (z:=(((i+1):Nat):Int)) rfl rfl (w64 (by omega)))<|r_pv rfl rfl (zb rfl)<|zj<|zba ((i+1),(A.set i (-1))) (show (i+1)≤n∧(A.set i (-1)).length=n∧∀j,j<(i+1)→(A.set i (-1)).getD j 0= -1 from by exact ⟨by omega,by rw [List.length_set];exact hAl,fun j hj=>by by_cases e9:j=i;exact e9 ▸ Big.getD_set_self (by omega) _;rw [Big.getD_set_ne e9];exact hA j (by omega)⟩) (by show n - (i+1)<n - i;omega) ((.of rfl):SubM _ _) (ho:=((.of [0,0] rfl):PickO _ _ _)) ((.of [0,1,2] rfl):SelR _ _ _)
 ·
  refine zfa<|zm<|zm<|zv<|ze<|zi<|zc<|r_pv rfl rfl (zd rfl)<|zj<|ze<|zi<|zi<|zc<|r_pv rfl rfl (zg Try.underlying24 rfl sz22 rfl rfl)<|r_u rfl rfl (zf 1 ty22 rfl rfl rfl)<|r_pv rfl rfl (zM Try.underlying22 rfl)<|r_pv rfl rfl (zb rfl)<|zj<|ze<|zz ?_
  have hin9:i=n:=by omega
  refine zma (X:=Nat×(List Int)) (fun x:Nat×(List Int)=>x.1≤n∧Fl.OutI n (Fl.lo l th) cc x.1 x.2) (fun x=>[(10,.int .i64 (((Fl.cnt (Fl.ldr (Fl.lo l th) cc) x.1):Nat):Int)),(36,.int .i64 ((x.1:Nat):Int)),(35,.int .i64 ((n:Nat):Int)),(34,.slice p n cap),(8,.slice (some ⟨b2,0,none⟩) n n),(7,.int .i64 0),(6,.slice none 0 0),(3,.pointer (some ⟨b1,0,none⟩)),(1,.func (.func 37) #[] #[.pointer (some ⟨tb,0,none⟩)]),(2,.slice p2 8 c2)]) (fun x=>[rowA 3 (rI .i64) (some ⟨b2,0,none⟩) n (x.2),boxA b1 24 [.int .i64 ((w:Nat):Int),.int .i64 ((h:Nat):Int),.int .i64 m,.slice p n cap]]) (fun x=>[slF (rI .i64) p cap l,atF tb 0 [.int .i64 th],slF (rI2 .i64) p2 c2 (Fl.st8)]) (fun x:Nat×(List Int)=>n - x.1) (0,A) (show 0≤n∧Fl.OutI n (Fl.lo l th) cc 0 A from by exact ⟨Nat.zero_le _,⟨hAl,fun j _ _ hj=>by omega,fun j hj _=>hA j (by omega)⟩⟩) ((.e rfl (by first|rfl|(congr 1;omega)|simp_all) (.e rfl (by first|rfl|(congr 1;omega)|simp_all) (.of rfl))):SubM _ _) (ho:=((.of [0,0] rfl):PickO _ _ _)) ((.of [0,1,2] rfl):SelR _ _ _) ?_
  rintro ⟨i,o⟩ hI
  replace hI:i≤n∧Fl.OutI n (Fl.lo l th) cc i o:=hI
  try dsimp only
  obtain ⟨hi,ho⟩:=hI
  have hol:=ho.len
  have hcn:=Fl.cnt_le (Fl.ldr (Fl.lo l th) cc) i
  refine zi<|zc<|r_pv rfl rfl (zW rfl rfl)<|zj<|ze<|zi<|zD rfl (fun h4=> ?_) (fun h4=> ?_)
  ·
   refine zA<|ze<|zi<|zz<|zi<|zc<|r_pv rfl rfl (zb rfl)<|zQ (x0:=(l.getD i 0)) 0 i rfl Try.underlying22 sz3 rfl rfl rfl (by first|rfl|assumption|(simp only [List.length_append,List.length_map,List.length_cons,List.length_nil];done)|(simp only [List.length_append,List.length_map,List.length_cons,List.length_nil];omega)|omega) rfl rfl (gD (d:=0) (by omega)) (fun b5 o6 hok7=> ?_)
   replace hok7:=zn.1 hok7
   refine r_u rfl rfl (zl (j:=0) 0 ty3 rfl rfl rfl rfl)<|r_pv rfl rfl (zd rfl)<|r_pv rfl rfl (zd rfl)<|zj<|ze<|zi<|zFa (X:=Unit) (fun x=>True) (fun x=>[(51,.bool (decide (¬o.getD i 0<0∨¬(Fl.lo l th) i=true))),(11,.int .i64 ((i:Nat):Int)),(10,.int .i64 (((Fl.cnt (Fl.ldr (Fl.lo l th) cc) i):Nat):Int)),(36,.int .i64 ((i:Nat):Int)),(35,.int .i64 ((n:Nat):Int)),(34,.slice p n cap),(8,.slice (some ⟨b2,0,none⟩) n n),(7,.int .i64 0),(6,.slice none 0 0),(3,.pointer (some ⟨b1,0,none⟩)),(1,.func (.func 37) #[] #[.pointer (some ⟨tb,0,none⟩)]),(2,.slice p2 8 c2)]) (fun x=>[rowA 3 (rI .i64) (some ⟨b2,0,none⟩) n o,boxA b1 24 [.int .i64 ((w:Nat):Int),.int .i64 ((h:Nat):Int),.int .i64 m,.slice p n cap]]) (fun x=>[atF b5 o6 [.int .i64 (l.getD i 0)],slF (rI .i64) p cap l,atF tb 0 [.int .i64 th],slF (rI2 .i64) p2 c2 (Fl.st8)]) ?_ ?_
   ·
    refine zc<|r_pv rfl rfl (zb rfl)<|r_pv rfl rfl (zb rfl)<|r_pv rfl rfl (zN (j:=i) Try.underlying22 sz3 rfl rfl rfl (by omega))<|r_vl rfl rfl (zU 0 i rfl ty3 rfl rfl (gD (d:=0) (by omega)) rfl) (fun _ hok8=> ?_)
    replace hok8:=zn.1 hok8
    refine r_pv rfl rfl (zya rfl rfl)<|zP rfl rfl (zb rfl) (fun hk1=> ?_) (fun hk1=> ?_)
    ·
     refine za rfl rfl<|za rfl rfl<|za rfl rfl<|za rfl rfl<|r_pv rfl rfl (zk rfl rfl)<|zj ?_
     exact zZ () (show True from by first|trivial|omega|simp_all) ((.e rfl (congrArg Value.bool (by exact Eq.symm (decide_eq_true (.inl (by omega))))) (.of rfl)):SubM _ _) (ho:=((.of [0,0] rfl):PickO _ _ _)) ((.of [0,1,2,3] rfl):SelR _ _ _)
    ·
     refine r_pv rfl rfl (zb rfl)<|r_pv rfl rfl (zb rfl)<|zeb (first:=[]) (cap:=[.pointer (some ⟨tb,0,none⟩)]) rfl rfl rfl (.c rfl .n) ce37 (zuc (g:=(l.getD i 0)) (th:=th) (tb:=tb)) (.c (j:=2) rfl .n) ?_
     rintro ⟨⟩ -
     dsimp only [List.append_eq,List.nil_append,List.cons_append]
     refine r_pv rfl rfl (zjb rfl)<|r_pv rfl rfl (zk rfl rfl)<|zj ?_
     exact zZ () (show True from by first|trivial|omega|simp_all) ((.e rfl (congrArg Value.bool (by exact decide_eq_decide.2 ⟨fun h9=> .inr (fun h8=>h9 ((Fl.lo_iff (by omega)).1 h8)),fun h9 h8=>h9.elim (fun h7=>h7 (by omega)) (fun h7=>h7 ((Fl.lo_iff (by omega)).2 h8))⟩)) (.of rfl)):SubM _ _) (ho:=((.of [0,0] rfl):PickO _ _ _)) ((.of [0,1,2,3] rfl):SelR _ _ _)
   ·
    rintro ⟨⟩ -
    try dsimp only
    refine zD rfl (fun hout=> ?_) (fun hout=> ?_)
    ·
     refine zfa<|zm<|zv<|ze<|zc<|r_pv rfl rfl (zy (z:=(((i+1):Nat):Int)) rfl rfl (w64 (by omega)))<|r_pv rfl rfl (zb rfl)<|zj<|zba ((i+1),o) (show (i+1)≤n∧Fl.OutI n (Fl.lo l th) cc (i+1) o from by exact ⟨by omega,(ho.none hcc (by omega) hout).1⟩) (by show n - (i+1)<n - i;omega) ((.e rfl (congrArg (Value.int .i64) (by dsimp only;rw [Fl.cnt_succ,(ho.none hcc (by omega) hout).2];simp)) (.of rfl)):SubM _ _) (ho:=((.of [0,0] rfl):PickO _ _ _)) ((.of [1,2,3] rfl):SelR _ _ _)
    ·
     refine zA<|ze<|zi<|zc<|r_pv rfl rfl (zb rfl)<|r_pv rfl rfl (zb rfl)<|r_pv rfl rfl (zb rfl)<|r_pv rfl rfl (zN (j:=i) Try.underlying22 sz3 rfl rfl rfl (by omega))<|zxa 0 rfl rfl rfl (zR (j:=i) (x0:=(((Fl.cnt (Fl.ldr (Fl.lo l th) cc) i):Nat):Int)) (γ0:=()) rfl rfl (by first|omega|(rw [List.length_map];omega)|(simp only [List.length_set];omega)|(simp;done)|(simp;omega)) rfl rfl sz3 (fun _ _=>by exact zn.2 (by omega))) (fun _=> .z) (fun _ _=> ?_)
     refine zj<|ze<|zi<|zi<|zc<|r_pv rfl rfl (zb rfl)<|zta rfl rfl (zE (enc:=fun z:Int=>[.int .i64 z]) (ok:=InK .i64) (h1:=fun _=>rfl) (h2:=fun _=>rfl) (k:=1) Try.underlying22 inf3 rfl (by decide) (by decide) (by decide) (.c (x:=((i:Nat):Int)) rfl rfl (fun _ _=>by exact zn.2 (by omega)) .n)) (fun b9 _=> ?_)
     refine r_pv rfl rfl (zd rfl)<|zj<|ze<|zz ?_
     have hfi:(Fl.lo l th) i=true:=by by_cases h9:(Fl.lo l th) i=true;exact h9;exact absurd (.inr h9) hout
     have hoi:o.getD i 0<0:=by by_cases h9:o.getD i 0<0;exact h9;exact absurd (.inl h9) hout
     have hld:=(ho.lead hcc (by omega) hoi hfi).2
     refine zma (X:=(List Int)×(List Nat)×(Option Addr)×Nat) (fun x:(List Int)×(List Nat)×(Option Addr)×Nat=>Fl.Fld n (Fl.lo l th) (Fl.nb true w n) cc i x.1 x.2.1∧2*Fl.unv x.1+x.2.1.length≤2*n+1) (fun x=>[(13,.slice (x.2.2.1) (x.2.1.length) (x.2.2.2)),(10,.int .i64 (((Fl.cnt (Fl.ldr (Fl.lo l th) cc) i):Nat):Int)),(36,.int .i64 ((i:Nat):Int)),(35,.int .i64 ((n:Nat):Int)),(34,.slice p n cap),(8,.slice (some ⟨b2,0,none⟩) n n),(7,.int .i64 0),(6,.slice none 0 0),(3,.pointer (some ⟨b1,0,none⟩)),(1,.func (.func 37) #[] #[.pointer (some ⟨tb,0,none⟩)]),(2,.slice p2 8 c2)]) (fun x=>[rowA 3 (rI .i64) (x.2.2.1) (x.2.2.2) (x.2.1.map Fl.iz),rowA 3 (rI .i64) (some ⟨b2,0,none⟩) n (x.1),boxA b1 24 [.int .i64 ((w:Nat):Int),.int .i64 ((h:Nat):Int),.int .i64 m,.slice p n cap]]) (fun x=>[atF b5 o6 [.int .i64 (l.getD i 0)],slF (rI .i64) p cap l,atF tb 0 [.int .i64 th],slF (rI2 .i64) p2 c2 (Fl.st8)]) (fun x:(List Int)×(List Nat)×(Option Addr)×Nat=>2*Fl.unv x.1+x.2.1.length) ((o.set i (((Fl.cnt (Fl.ldr (Fl.lo l th) cc) i):Nat):Int)),[i],some ⟨b9,0,none⟩,1) (show Fl.Fld n (Fl.lo l th) (Fl.nb true w n) cc i (o.set i (((Fl.cnt (Fl.ldr (Fl.lo l th) cc) i):Nat):Int)) ([i])∧2*Fl.unv (o.set i (((Fl.cnt (Fl.ldr (Fl.lo l th) cc) i):Nat):Int))+([i]).length≤2*n+1 from by exact ⟨(ho.lead hcc (by omega) hoi hfi).1,by have h9:=Fl.unv_le (o.set i ((Fl.cnt (Fl.ldr (Fl.lo l th) cc) i:Nat):Int));rw [List.length_set] at h9;simp only [List.length_cons,List.length_nil];omega⟩) ((.e rfl (by first|rfl|(congr 1;omega)|simp_all) (.of rfl)):SubM _ _) (ho:=((.e (i:=0) rfl (by first|rfl|(congr 1;omega)|simp_all) (.of [0,0] rfl)):PickO _ _ _)) ((.of [0,1,2,3] rfl):SelR _ _ _) ?_
     rintro ⟨o2,sk,p4,c4⟩ hFF
     replace hFF:Fl.Fld n (Fl.lo l th) (Fl.nb true w n) cc i o2 sk∧2*Fl.unv o2+sk.length≤2*n+1:=hFF
     try dsimp only
     obtain ⟨hF,hFm⟩:=hFF
     have ho2:=hF.len
     refine zi<|zi<|zc<|r_pv rfl rfl (zb rfl)<|r_pv rfl rfl (zM Try.underlying22 rfl)<|r_pv rfl rfl (zwa rfl rfl)<|zj<|ze<|zD rfl (fun hso=> ?_) (fun hso=> ?_)
     ·
      obtain ⟨st,pp,rfl⟩:=Fl.snoc (sk:=sk) (fun e9=>by rw [e9] at hso;simp at hso)
      have hsl9:st.length+1≤2*n+1:=by have h8:=hFm;rw [List.length_append] at h8;simp only [List.length_cons,List.length_nil] at h8;omega
      have hsl8:((st++[pp]).map Fl.iz).length=st.length+1:=by simp
      refine zEc 0 rfl (fun hcl=> ?_)
      have e10:(.slice p4 ((st++[pp]).length) c4:Value)= .slice p4 (st.length+1) c4:=by simp
      rw [e10]
      refine zA<|ze<|zz<|zi<|zc<|r_pv rfl rfl (zb rfl)<|r_pv rfl rfl (zb rfl)<|r_pv rfl rfl (zM Try.underlying22 rfl)<|r_pv rfl rfl (zda (z:=(((st.length):Nat):Int)) rfl rfl (w64 (by omega)))<|r_u rfl rfl (zia 0 (st.length) rfl Try.underlying22 sz3 rfl (by first|rfl|assumption|(simp only [List.length_append,List.length_map,List.length_cons,List.length_nil];done)|(simp only [List.length_append,List.length_map,List.length_cons,List.length_nil];omega)|omega) rfl rfl (by omega))<|r_vl rfl rfl (zU 0 (st.length) rfl ty3 rfl rfl (gD (d:=0) (by omega)) rfl) (fun _ hok11=> ?_)
      replace hok11:=zn.1 hok11
      refine r_pv rfl rfl (zd rfl)<|zj<|ze<|zi ?_
      have e12:((((st++[pp]).map Fl.iz).getD (st.length) 0):Int)=((pp:Nat):Int):=by exact Fl.getD_iz st pp
      rw [e12]
      refine zc<|r_pv rfl rfl (zb rfl)<|r_pv rfl rfl (zb rfl)<|r_pv rfl rfl (zM Try.underlying22 rfl)<|r_pv rfl rfl (zda (z:=(((st.length):Nat):Int)) rfl rfl (w64 (by omega)))<|r_pv rfl rfl (zZa (hi:=(st.length)) Try.underlying22 sz3 rfl (.s rfl) (.inr ⟨_,rfl⟩) (by omega))<|r_pv rfl rfl (zd rfl)<|zj<|ze<|zi<|c_mem (fun w mm=>mm.rowTake 0 rfl (st.length)) ?_
      dsimp only [List.set]
      have e13:((st++[pp]).map Fl.iz).take (st.length)=st.map Fl.iz:=by simp
      rw [e13]
      refine zc<|r_pv rfl rfl (zb rfl)<|r_pv rfl rfl (zM Try.underlying75 rfl)<|r_pv rfl rfl (zb rfl)<|zj<|ze<|zz<|zma (X:=Nat×(List Int)×(List Nat)×(Option Addr)×Nat) (fun x:Nat×(List Int)×(List Nat)×(Option Addr)×Nat=>x.1≤8∧Fl.FlP n (Fl.lo l th) (Fl.nb true w n) cc i x.2.1 x.2.2.1 pp (Fl.Dst w h pp Fl.st8 x.1)∧2*Fl.unv x.2.1+x.2.2.1.length≤2*Fl.unv o2+st.length) (fun x=>[(13,.slice (x.2.2.2.1) (x.2.2.1.length) (x.2.2.2.2)),(74,.int .i64 ((x.1:Nat):Int)),(73,.int .i64 8),(72,.slice p2 8 c2),(14,.int .i64 ((pp:Nat):Int)),(10,.int .i64 (((Fl.cnt (Fl.ldr (Fl.lo l th) cc) i):Nat):Int)),(36,.int .i64 ((i:Nat):Int)),(35,.int .i64 ((n:Nat):Int)),(34,.slice p n cap),(8,.slice (some ⟨b2,0,none⟩) n n),(7,.int .i64 0),(6,.slice none 0 0),(3,.pointer (some ⟨b1,0,none⟩)),(1,.func (.func 37) #[] #[.pointer (some ⟨tb,0,none⟩)]),(2,.slice p2 8 c2)]) (fun x=>[rowA 3 (rI .i64) (x.2.2.2.1) (x.2.2.2.2) (x.2.2.1.map Fl.iz),rowA 3 (rI .i64) (some ⟨b2,0,none⟩) n (x.2.1),boxA b1 24 [.int .i64 ((w:Nat):Int),.int .i64 ((h:Nat):Int),.int .i64 m,.slice p n cap]]) (fun x=>[atF b5 o6 [.int .i64 (l.getD i 0)],slF (rI .i64) p cap l,atF tb 0 [.int .i64 th],slF (rI2 .i64) p2 c2 (Fl.st8)]) (fun x:Nat×(List Int)×(List Nat)×(Option Addr)×Nat=>8 - x.1) (0,o2,st,p4,c4) (show 0≤8∧Fl.FlP n (Fl.lo l th) (Fl.nb true w n) cc i o2 st pp (Fl.Dst w h pp Fl.st8 0)∧2*Fl.unv o2+st.length≤2*Fl.unv o2+st.length from by exact ⟨Nat.zero_le _,Fl.FlP.start hF,Nat.le_refl _⟩) ((.c rfl (.e rfl (by first|rfl|(congr 1;omega)|simp_all) (.of rfl))):SubM _ _) (ho:=((.of [0,0,0] rfl):PickO _ _ _)) ((.of [0,1,2,3] rfl):SelR _ _ _) ?_
      rintro ⟨q,o3,s3,p5,c5⟩ hQ
      replace hQ:q≤8∧Fl.FlP n (Fl.lo l th) (Fl.nb true w n) cc i o3 s3 pp (Fl.Dst w h pp Fl.st8 q)∧2*Fl.unv o3+s3.length≤2*Fl.unv o2+st.length:=hQ
      try dsimp only
      obtain ⟨hq,hP1,hP2⟩:=hQ
      have ho3:=hP1.len
      refine zi<|zc<|r_pv rfl rfl (zW rfl rfl)<|zj<|ze<|zi<|zD rfl (fun h14=> ?_) (fun h14=> ?_)
      ·
       have hst9:Fl.st8.length=8:=rfl
       have hd9:=Fl.stp8.ok _ (Fl.gD_mem (l:=Fl.st8) (q:=q) (by show q<8;omega))
       have hpb:=Fl.at_b hw hP1.pop.1 hb hd9.1 hd9.2.1
       refine zA<|ze<|zi<|zz<|zi<|zc<|zQ (x0:=(Fl.st8.getD q (0,0))) 3 q rfl Try.underlying75 sz90 rfl rfl rfl (by first|rfl|assumption|(simp only [List.length_append,List.length_map,List.length_cons,List.length_nil];done)|(simp only [List.length_append,List.length_map,List.length_cons,List.length_nil];omega)|omega) rfl rfl (gD (d:=(0,0)) (by omega)) (fun b15 o16 hok17=> ?_)
       obtain ⟨hok17x,hok17y⟩:=hok17
       replace hok17x:=zn.1 hok17x
       replace hok17y:=zn.1 hok17y
       refine r_u rfl rfl (zJa (j:=0) 0 ty90 rfl rfl rfl (.take (.take .nil)))<|zS rfl rfl (zG zr90 rfl) (fun b18=> ?_)
       refine zo 0 rfl rfl rfl rfl rfl sz90 rfl (.take (.take .nil)) .z<|zj<|ze<|zi<|zja (OW:=[]) (O:=[boxA b18 90 [.int .i64 ((Fl.st8.getD q (0,0)).1),.int .i64 ((Fl.st8.getD q (0,0)).2)],rowA 3 (rI .i64) p5 c5 (s3.map Fl.iz),rowA 3 (rI .i64) (some ⟨b2,0,none⟩) n o3,boxA b1 24 [.int .i64 ((w:Nat):Int),.int .i64 ((h:Nat):Int),.int .i64 m,.slice p n cap]]) 100000 mixed (.then (.block (.then (.then (.block (.block (.then (.block (.then (.block (.then (.then (.block (.then .ret)))))))))))))) (by kernel_rfl)<|d_pv 0 rfl rfl (by kernel_rfl) (by kernel_rfl) rfl rfl (zb rfl)<|d_pv 1 rfl rfl (by kernel_rfl) (by kernel_rfl) rfl rfl (zg Try.underlying24 rfl sz3 rfl rfl)<|d_u 2 rfl rfl (by kernel_rfl) (by kernel_rfl) rfl rfl (zf 3 ty3 rfl rfl rfl)<|d_pv 3 rfl rfl (by kernel_rfl) (by kernel_rfl) rfl rfl (zHa (z:=(((pp%w):Nat):Int)) rfl rfl (by omega) (remN (by omega) (by omega)))<|d_pv 4 rfl rfl (by kernel_rfl) (by kernel_rfl) rfl rfl (zKa (i:=0) Try.underlying90 sz3 rfl rfl (by decide) rfl)<|d_u 5 rfl rfl (by kernel_rfl) (by kernel_rfl) rfl rfl (zf 0 ty3 rfl rfl rfl)<|d_pv 6 rfl rfl (by kernel_rfl) (by kernel_rfl) rfl rfl (zy (z:=((((pp%w):Nat):Int)+(Fl.st8.getD q (0,0)).1)) rfl rfl (w64 (by omega)))<|d_pv 7 rfl rfl (by kernel_rfl) (by kernel_rfl) rfl rfl (zb rfl)<|d_pv 8 rfl rfl (by kernel_rfl) (by kernel_rfl) rfl rfl (zg Try.underlying24 rfl sz3 rfl rfl)<|d_u 9 rfl rfl (by kernel_rfl) (by kernel_rfl) rfl rfl (zf 3 ty3 rfl rfl rfl)<|d_pv 10 rfl rfl (by kernel_rfl) (by kernel_rfl) rfl rfl (zGa (z:=(((pp / w):Nat):Int)) rfl rfl (by omega) (by rw [quoN (z:=(((pp / w):Nat):Int)) (by omega) (by omega)];exact w64 (by omega)))<|d_pv 11 rfl rfl (by kernel_rfl) (by kernel_rfl) rfl rfl (zKa (i:=1) Try.underlying90 sz3 rfl rfl (by decide) rfl)<|d_u 12 rfl rfl (by kernel_rfl) (by kernel_rfl) rfl rfl (zf 0 ty3 rfl rfl rfl)<|d_pv 13 rfl rfl (by kernel_rfl) (by kernel_rfl) rfl rfl (zy (z:=((((pp / w):Nat):Int)+(Fl.st8.getD q (0,0)).2)) rfl rfl (w64 (by omega)))<|d_pv 14 rfl rfl (by kernel_rfl) (by kernel_rfl) rfl rfl (zd rfl)<|d_pv 15 rfl rfl (by kernel_rfl) (by kernel_rfl) rfl rfl (zd rfl)<|zga (by kernel_rfl)<|ze<|zi ?_
       obtain ⟨kx,hkx⟩:∃z,z=((((pp%w):Nat):Int)+(Fl.st8.getD q (0,0)).1):=⟨_,rfl⟩
       rw [← hkx]
       obtain ⟨ky,hky⟩:∃z,z=((((pp / w):Nat):Int)+(Fl.st8.getD q (0,0)).2):=⟨_,rfl⟩
       rw [← hky]
       have hkyw: -64≤ky*((w:Nat):Int)∧ky*((w:Nat):Int)≤4160:=by rw [hky];exact hpb.1
       have hkxb: -1≤kx∧kx≤64:=by rw [hkx];exact hpb.2.1
       refine zc<|r_pv rfl rfl (zb rfl)<|r_pv rfl rfl (zg Try.underlying24 rfl sz3 rfl rfl)<|r_u rfl rfl (zf 3 ty3 rfl rfl rfl)<|r_pv rfl rfl (zla (z:=(ky*((w:Nat):Int))) rfl rfl (w64 (by omega)))<|r_pv rfl rfl (zb rfl)<|r_pv rfl rfl (zy (z:=((ky*((w:Nat):Int))+kx)) rfl rfl (w64 (by omega)))<|r_pv rfl rfl (zd rfl)<|zj<|ze ?_
       obtain ⟨kj,hkj⟩:∃z,z=((ky*((w:Nat):Int))+kx):=⟨_,rfl⟩
       rw [← hkj]
       refine zFa (X:=Unit) (fun x=>True) (fun x=>[(131,.bool (decide (Fl.CP w h pp (Fl.lo l th) o3 (Fl.st8.getD q (0,0))))),(19,.int .i64 kj),(13,.slice p5 (s3.length) c5),(74,.int .i64 ((q:Nat):Int)),(73,.int .i64 8),(72,.slice p2 8 c2),(14,.int .i64 ((pp:Nat):Int)),(10,.int .i64 (((Fl.cnt (Fl.ldr (Fl.lo l th) cc) i):Nat):Int)),(36,.int .i64 ((i:Nat):Int)),(35,.int .i64 ((n:Nat):Int)),(34,.slice p n cap),(8,.slice (some ⟨b2,0,none⟩) n n),(7,.int .i64 0),(6,.slice none 0 0),(3,.pointer (some ⟨b1,0,none⟩)),(1,.func (.func 37) #[] #[.pointer (some ⟨tb,0,none⟩)]),(2,.slice p2 8 c2)]) (fun x=>[boxA b18 90 [.int .i64 ((Fl.st8.getD q (0,0)).1),.int .i64 ((Fl.st8.getD q (0,0)).2)],rowA 3 (rI .i64) p5 c5 (s3.map Fl.iz),rowA 3 (rI .i64) (some ⟨b2,0,none⟩) n o3,boxA b1 24 [.int .i64 ((w:Nat):Int),.int .i64 ((h:Nat):Int),.int .i64 m,.slice p n cap]]) (fun x=>[atF b15 o16 [.int .i64 ((Fl.st8.getD q (0,0)).1),.int .i64 ((Fl.st8.getD q (0,0)).2)],atF b5 o6 [.int .i64 (l.getD i 0)],slF (rI .i64) p cap l,atF tb 0 [.int .i64 th],slF (rI2 .i64) p2 c2 (Fl.st8)]) ?_ ?_
       ·
        refine zc<|r_pv rfl rfl (zb rfl)<|r_pv rfl rfl (zya rfl rfl)<|zP rfl rfl (zb rfl) (fun hx0=> ?_) (fun hx0=> ?_)
        ·
         refine r_pv rfl rfl (zb rfl)<|r_pv rfl rfl (zya rfl rfl)<|r_pv rfl rfl (zk rfl rfl)<|zP rfl rfl (zb rfl) (fun hx1=> ?_) (fun hx1=> ?_)
         ·
          refine r_pv rfl rfl (zb rfl)<|r_pv rfl rfl (zg Try.underlying24 rfl sz3 rfl rfl)<|r_u rfl rfl (zf 3 ty3 rfl rfl rfl)<|r_pv rfl rfl (zW rfl rfl)<|r_pv rfl rfl (zk rfl rfl)<|zP rfl rfl (zb rfl) (fun hx2=> ?_) (fun hx2=> ?_)
          ·
           refine r_pv rfl rfl (zb rfl)<|r_pv rfl rfl (zg Try.underlying24 rfl sz3 rfl rfl)<|r_u rfl rfl (zf 3 ty3 rfl rfl rfl)<|r_pv rfl rfl (zW rfl rfl)<|r_pv rfl rfl (zk rfl rfl)<|zP rfl rfl (zb rfl) (fun hx3=> ?_) (fun hx3=> ?_)
           ·
            have hat:kj.toNat=Fl.atD w pp (Fl.st8.getD q (0,0)):=by rw [hkj,hky,hkx];rfl
            have hiD:Fl.inD w h pp (Fl.st8.getD q (0,0)):=⟨hkx ▸ hx0,hky ▸ hx1,hkx ▸ hx2,hky ▸ hx3⟩
            have hpx:=hiD.pix
            have hkj0:0≤kj∧kj.toNat<n:=⟨by rw [hkj,hky,hkx];exact hpx.1,by rw [hat,hwh];exact hpx.2⟩
            refine r_pv rfl rfl (zb rfl)<|r_pv rfl rfl (zb rfl)<|r_pv rfl rfl (zN (j:=(kj).toNat) Try.underlying22 sz3 rfl rfl (by omega) (by omega))<|r_vl rfl rfl (zU 2 ((kj).toNat) rfl ty3 rfl rfl (gD (d:=0) (by omega)) rfl) (fun _ hok19=> ?_)
            replace hok19:=zn.1 hok19
            refine r_pv rfl rfl (zW rfl rfl)<|r_pv rfl rfl (zk rfl rfl)<|zP rfl rfl (zb rfl) (fun hx4=> ?_) (fun hx4=> ?_)
            ·
             refine r_pv rfl rfl (zb rfl)<|r_pv rfl rfl (zg Try.underlying24 rfl sz22 rfl rfl)<|r_u rfl rfl (zf 3 ty22 rfl rfl rfl)<|r_pv rfl rfl (zb rfl)<|zQ (x0:=(l.getD ((kj).toNat) 0)) 2 ((kj).toNat) rfl Try.underlying22 sz3 rfl rfl rfl (by first|rfl|assumption|(simp only [List.length_append,List.length_map,List.length_cons,List.length_nil];done)|(simp only [List.length_append,List.length_map,List.length_cons,List.length_nil];omega)|omega) rfl (by omega) (gD (d:=0) (by omega)) (fun b20 o21 hok22=> ?_)
             replace hok22:=zn.1 hok22
             refine r_u rfl rfl (zl (j:=0) 0 ty3 rfl rfl rfl rfl)<|zeb (first:=[]) (cap:=[.pointer (some ⟨tb,0,none⟩)]) rfl rfl rfl (.c rfl .n) ce37 (zuc (g:=(l.getD ((kj).toNat) 0)) (th:=th) (tb:=tb)) (.c (j:=4) rfl .n) ?_
             rintro ⟨⟩ -
             dsimp only [List.append_eq,List.nil_append,List.cons_append]
             refine r_pv rfl rfl (zk rfl rfl)<|zj ?_
             exact zZ () (show True from by first|trivial|omega|simp_all) ((.e rfl (congrArg Value.bool (by exact decide_eq_decide.2 ⟨fun h9=>⟨hiD,by rw [← hat];exact hx4,by rw [← hat];exact (Fl.lo_iff (by omega)).2 h9⟩,fun h9=>(Fl.lo_iff (by omega)).1 (by rw [hat];exact h9.2.2)⟩)) (.of rfl)):SubM _ _) (ho:=((.of [0,0,0,0] rfl):PickO _ _ _)) ((.of [1,2,3,4,5] rfl):SelR _ _ _)
            ·
             refine za rfl rfl<|za rfl rfl<|za rfl rfl<|za rfl rfl<|za rfl rfl<|za rfl rfl<|za rfl rfl<|r_pv rfl rfl (zk rfl rfl)<|zj ?_
             exact zZ () (show True from by first|trivial|omega|simp_all) ((.e rfl (congrArg Value.bool (by exact Eq.symm (decide_eq_false (fun h9=>hx4 (by rw [hat];exact h9.2.1))))) (.of rfl)):SubM _ _) (ho:=((.of [0,0,0,0] rfl):PickO _ _ _)) ((.of [0,1,2,3,4] rfl):SelR _ _ _)
           ·
            refine za rfl rfl<|za rfl rfl<|za rfl rfl<|za rfl rfl<|za rfl rfl<|r_pv rfl rfl (zk rfl rfl)<|r_pv rfl rfl (zb rfl)<|za rfl rfl<|za rfl rfl<|za rfl rfl<|za rfl rfl<|za rfl rfl<|za rfl rfl<|za rfl rfl<|r_pv rfl rfl (zk rfl rfl)<|zj ?_
            exact zZ () (show True from by first|trivial|omega|simp_all) ((.e rfl (congrArg Value.bool (by exact Eq.symm (decide_eq_false (fun h9=>hx3 (by rw [hky];exact h9.1.2.2.2))))) (.of rfl)):SubM _ _) (ho:=((.of [0,0,0,0] rfl):PickO _ _ _)) ((.of [0,1,2,3,4] rfl):SelR _ _ _)
          ·
           refine za rfl rfl<|za rfl rfl<|za rfl rfl<|za rfl rfl<|r_pv rfl rfl (zk rfl rfl)<|r_pv rfl rfl (zb rfl)<|za rfl rfl<|za rfl rfl<|za rfl rfl<|za rfl rfl<|za rfl rfl<|r_pv rfl rfl (zk rfl rfl)<|r_pv rfl rfl (zb rfl)<|za rfl rfl<|za rfl rfl<|za rfl rfl<|za rfl rfl<|za rfl rfl<|za rfl rfl<|za rfl rfl<|r_pv rfl rfl (zk rfl rfl)<|zj ?_
           exact zZ () (show True from by first|trivial|omega|simp_all) ((.e rfl (congrArg Value.bool (by exact Eq.symm (decide_eq_false (fun h9=>hx2 (by rw [hkx];exact h9.1.2.2.1))))) (.of rfl)):SubM _ _) (ho:=((.of [0,0,0,0] rfl):PickO _ _ _)) ((.of [0,1,2,3,4] rfl):SelR _ _ _)
         ·
          refine za rfl rfl<|za rfl rfl<|za rfl rfl<|za rfl rfl<|r_pv rfl rfl (zk rfl rfl)<|r_pv rfl rfl (zb rfl)<|za rfl rfl<|za rfl rfl<|za rfl rfl<|za rfl rfl<|r_pv rfl rfl (zk rfl rfl)<|r_pv rfl rfl (zb rfl)<|za rfl rfl<|za rfl rfl<|za rfl rfl<|za rfl rfl<|za rfl rfl<|r_pv rfl rfl (zk rfl rfl)<|r_pv rfl rfl (zb rfl)<|za rfl rfl<|za rfl rfl<|za rfl rfl<|za rfl rfl<|za rfl rfl<|za rfl rfl<|za rfl rfl<|r_pv rfl rfl (zk rfl rfl)<|zj ?_
          exact zZ () (show True from by first|trivial|omega|simp_all) ((.e rfl (congrArg Value.bool (by exact Eq.symm (decide_eq_false (fun h9=>hx1 (by rw [hky];exact h9.1.2.1))))) (.of rfl)):SubM _ _) (ho:=((.of [0,0,0,0] rfl):PickO _ _ _)) ((.of [0,1,2,3,4] rfl):SelR _ _ _)
        ·
         refine za rfl rfl<|za rfl rfl<|r_pv rfl rfl (zk rfl rfl)<|r_pv rfl rfl (zb rfl)<|za rfl rfl<|za rfl rfl<|za rfl rfl<|za rfl rfl<|r_pv rfl rfl (zk rfl rfl)<|r_pv rfl rfl (zb rfl)<|za rfl rfl<|za rfl rfl<|za rfl rfl<|za rfl rfl<|r_pv rfl rfl (zk rfl rfl)<|r_pv rfl rfl (zb rfl)<|za rfl rfl<|za rfl rfl<|za rfl rfl<|za rfl rfl<|za rfl rfl<|r_pv rfl rfl (zk rfl rfl)<|r_pv rfl rfl (zb rfl)<|za rfl rfl<|za rfl rfl<|za rfl rfl<|za rfl rfl<|za rfl rfl<|za rfl rfl<|za rfl rfl<|r_pv rfl rfl (zk rfl rfl)<|zj ?_
         exact zZ () (show True from by first|trivial|omega|simp_all) ((.e rfl (congrArg Value.bool (by exact Eq.symm (decide_eq_false (fun h9=>hx0 (by rw [hkx];exact h9.1.1))))) (.of rfl)):SubM _ _) (ho:=((.of [0,0,0,0] rfl):PickO _ _ _)) ((.of [0,1,2,3,4] rfl):SelR _ _ _)
       ·
        rintro ⟨⟩ -
        try dsimp only
        refine zD rfl (fun hc=> ?_) (fun hc=> ?_)
        ·
         have hat:kj.toNat=Fl.atD w pp (Fl.st8.getD q (0,0)):=by rw [hkj,hky,hkx];rfl
         have hpx:=hc.1.pix
         have hkj0:0≤kj∧kj.toNat<n:=⟨by rw [hkj,hky,hkx];exact hpx.1,by rw [hat,hwh];exact hpx.2⟩
         refine zi<|zc<|r_pv rfl rfl (zb rfl)<|r_pv rfl rfl (zb rfl)<|r_pv rfl rfl (zb rfl)<|r_pv rfl rfl (zN (j:=(kj).toNat) Try.underlying22 sz3 rfl rfl (by omega) (by omega))<|zxa 2 rfl rfl rfl (zR (j:=(kj).toNat) (x0:=(((Fl.cnt (Fl.ldr (Fl.lo l th) cc) i):Nat):Int)) (γ0:=()) rfl rfl (by first|omega|(rw [List.length_map];omega)|(simp only [List.length_set];omega)|(simp;done)|(simp;omega)) rfl rfl sz3 (fun _ _=>by exact zn.2 (by omega))) (fun _=>(.s (.s .z))) (fun _ _=> ?_)
         refine zj<|ze<|zc<|r_pv rfl rfl (zb rfl)<|r_pv rfl rfl (zb rfl)<|zta rfl rfl (zE (enc:=fun z:Int=>[.int .i64 z]) (ok:=InK .i64) (h1:=fun _=>rfl) (h2:=fun _=>rfl) (k:=1) Try.underlying22 inf3 rfl (by decide) (by decide) (by decide) (.c (x:=kj) rfl rfl (fun _ _=>by exact zn.2 (by omega)) .n)) (fun b23 _=> ?_)
         refine zea 0 rfl .z<|zxa 2 rfl rfl rfl (zra 0 rfl Try.underlying22 inf3 (by decide) rfl rfl (by first|rfl|assumption|(simp only [List.length_append,List.length_map,List.length_cons,List.length_nil];done)|(simp only [List.length_append,List.length_map,List.length_cons,List.length_nil];omega)|omega) rfl (by first|rfl|assumption|(simp only [List.length_append,List.length_map,List.length_cons,List.length_nil];done)|(simp only [List.length_append,List.length_map,List.length_cons,List.length_nil];omega)|omega) (by omega) (by omega)) (fun _=>(.s (.s .z))) ?_
         rintro ⟨p24,c25⟩ -
         dsimp only [List.append_eq,List.nil_append,List.cons_append]
         refine r_pv rfl rfl (zd rfl)<|zj<|zJ<|ze<|zc<|r_pv rfl rfl (zy (z:=(((q+1):Nat):Int)) rfl rfl (w64 (by omega)))<|r_pv rfl rfl (zb rfl)<|zj<|zba ((q+1),(o3.set ((kj).toNat) (((Fl.cnt (Fl.ldr (Fl.lo l th) cc) i):Nat):Int)),(s3++[(kj).toNat]),p24,c25) (show (q+1)≤8∧Fl.FlP n (Fl.lo l th) (Fl.nb true w n) cc i (o3.set ((kj).toNat) (((Fl.cnt (Fl.ldr (Fl.lo l th) cc) i):Nat):Int)) (s3++[(kj).toNat]) pp (Fl.Dst w h pp Fl.st8 (q+1))∧2*Fl.unv (o3.set ((kj).toNat) (((Fl.cnt (Fl.ldr (Fl.lo l th) cc) i):Nat):Int))+(s3++[(kj).toNat]).length≤2*Fl.unv o2+st.length from by have h9:=hP1.yes Fl.stp8 hwh (by show q<8;omega) hcc hc.1 hc.2.1 hc.2.2;rw [← hat] at h9;exact ⟨by omega,h9.1,by omega⟩) (by show 8 - (q+1)<8 - q;omega) ((.e rfl (by simp) (.of rfl)):SubM _ _) (ho:=((.e (i:=2) rfl (by first|rfl|(dsimp only;rw [List.map_append,List.map_cons,List.map_nil,show Fl.iz ((kj).toNat)=kj by unfold Fl.iz;omega])) (.of [2,2] rfl)):PickO _ _ _)) ((.of [2,3,4,5] rfl):SelR _ _ _)
        ·
         refine zA<|zJ<|ze<|zc<|r_pv rfl rfl (zy (z:=(((q+1):Nat):Int)) rfl rfl (w64 (by omega)))<|r_pv rfl rfl (zb rfl)<|zj<|zba ((q+1),o3,s3,p5,c5) (show (q+1)≤8∧Fl.FlP n (Fl.lo l th) (Fl.nb true w n) cc i o3 s3 pp (Fl.Dst w h pp Fl.st8 (q+1))∧2*Fl.unv o3+s3.length≤2*Fl.unv o2+st.length from by exact ⟨by omega,hP1.no Fl.stp8 hwh (by show q<8;omega) hcc hc,hP2⟩) (by show 8 - (q+1)<8 - q;omega) ((.of rfl):SubM _ _) (ho:=((.of [1,1,1] rfl):PickO _ _ _)) ((.of [1,2,3,4] rfl):SelR _ _ _)
      ·
       refine zfa<|zm<|zm<|zv<|zJ<|zba (o3,s3,p5,c5) (show Fl.Fld n (Fl.lo l th) (Fl.nb true w n) cc i o3 s3∧2*Fl.unv o3+s3.length≤2*n+1 from by refine ⟨?_,?_⟩;(have h9:q=8:=(by omega));subst h9;exact hP1.end_ Fl.stp8 (by omega) hwh;have h8:=hFm;rw [List.length_append] at h8;simp only [List.length_cons,List.length_nil] at h8;omega) (by have h9:=hP2;rw [List.length_append];simp only [List.length_cons,List.length_nil];omega) ((.of rfl):SubM _ _) (ho:=((.of [0,0,0] rfl):PickO _ _ _)) ((.of [0,1,2,3] rfl):SelR _ _ _)
     ·
      refine zfa<|zm<|zm<|zv<|ze<|zc<|r_pv rfl rfl (zb rfl)<|r_pv rfl rfl (zy (z:=((((Fl.cnt (Fl.ldr (Fl.lo l th) cc) i)+1):Nat):Int)) rfl rfl (w64 (by omega)))<|r_pv rfl rfl (zd rfl)<|zj<|zJ<|ze<|zc<|r_pv rfl rfl (zy (z:=(((i+1):Nat):Int)) rfl rfl (w64 (by omega)))<|r_pv rfl rfl (zb rfl)<|zj<|zba ((i+1),o2) (show (i+1)≤n∧Fl.OutI n (Fl.lo l th) cc (i+1) o2 from by exact ⟨by omega,(by have h9:sk=[]:=(by cases sk with|nil=>rfl|cons a t=>simp at hso);subst h9;exact hF.fin hcc (fun _ _=>Fl.nb_symm) (fun _ _ h8=>Fl.nb_lt h8) (by omega) hfi)⟩) (by show n - (i+1)<n - i;omega) ((.e rfl (congrArg (Value.int .i64) (by dsimp only;rw [Fl.cnt_succ,hld];simp)) (.of rfl)):SubM _ _) (ho:=((.of [1,1] rfl):PickO _ _ _)) ((.of [1,2,3] rfl):SelR _ _ _)
  ·
   refine zfa<|zm<|zm<|zv<|ze<|zi<|zc<|r_pv rfl rfl (zb rfl)<|r_pv rfl rfl (zb rfl)<|r_pv rfl rfl (zd rfl)<|r_pv rfl rfl (zd rfl)<|zj<|ze<|zI ?_
   have hin8:i=n:=by omega
   rw [hin8] at ho
   refine zPa 0 rfl .z ?_
   exact zva Try.results36 (some ⟨b2,0,none⟩,n,o,cc) (⟨hcc,ho⟩) (zq rfl) (zq rfl) (by rw [hin8]) (ho:=(.n:PickO _ _ _)) ((.c (j:=0) rfl .n):SelR _ _ _)
end Go.Proofs.Ytefbbhiaalcjfaa.Sp
namespace Go.Proofs.Ytefbbhiaalcjfaa.Fl
section
variable {n i k : Nat} {f : Nat → Bool} {adj : Nat → Nat → Prop} {c : Nat → Nat} {num A : List Int}
structure LbI (n:Nat) (f:Nat→Bool) (c:Nat→Nat) (i:Nat) (num:List Int) (A:List Int):Prop where
  nl:num.length=n
  al:A.length=i
  lead:∀j,j<i→ldr f c j=true→num.getD j 0=(cnt (ldr f c) j:Int)
  yes:∀j,j<i→f j=true→A.getD j 0=(cnt (ldr f c) (c j):Int)
  not:∀j,j<i→¬f j=true→A.getD j 0= -1
theorem getD_snoc_lt {A:List Int} {x:Int} {j:Nat} (h:j<A.length):(A++[x]).getD j 0=A.getD j 0:=by
  rw [List.getD_eq_getElem?_getD,List.getElem?_append_left h,←List.getD_eq_getElem?_getD]
theorem getD_snoc_eq {A:List Int} {x:Int}:(A++[x]).getD A.length 0=x:=by
  rw [List.getD_eq_getElem?_getD,List.getElem?_append_right (Nat.le_refl _)];simp
theorem LbI.start:LbI n f c 0 (List.replicate n 0) []:=⟨by simp,rfl,fun j h=>by omega,fun j h=>by omega,fun j h=>by omega⟩
theorem ldr_iff {j:Nat}:ldr f c j=true↔f j=true∧c j=j:=by simp [ldr]
theorem LbI.out (h:LbI n f c i num A) (hf:¬f i=true):LbI n f c (i+1) num (A++[-1])∧cnt (ldr f c) (i+1)=cnt (ldr f c) i:=by
  have hl:¬ldr f c i=true:=fun k=>hf (ldr_iff.1 k).1
  refine ⟨⟨h.nl,by simp [h.al],fun j hj hx=> ?_,fun j hj hx=> ?_,fun j hj hx=> ?_⟩,by rw [cnt_succ,if_neg hl];rfl⟩
  · exact h.lead j (by by_cases e:j=i;exact absurd (e ▸ hx) hl;omega) hx
  · have e : j ≠ i := fun e => hf (e ▸ hx)
    rw [getD_snoc_lt (by rw [h.al];omega)];exact h.yes j (by omega) hx
  · by_cases e : j = i
    · rw [e,←h.al];exact getD_snoc_eq
    · rw [getD_snoc_lt (by rw [h.al];omega)];exact h.not j (by omega) hx
theorem LbI.lab (h:LbI n f c n num A) (hcl:Lst (fun j=>f j=true) adj c):Lab n f adj A:=⟨h.al,c,hcl,h.yes,h.not⟩
end
def LabR (w h m:Int) (l:List Int) (th:Int) (o:List Int):Prop:=
  (Bl.rok w h m l∧0≤th∧th≤65536→Lab l.length (ge l th) (nb false w.toNat l.length) o)∧(¬(Bl.rok w h m l∧0≤th∧th≤65536)→o=[])
theorem LabR.uniq {w h m th:Int} {l o o2:List Int} (a:LabR w h m l th o) (b:LabR w h m l th o2):o=o2:=by
  by_cases e:Bl.rok w h m l∧0≤th∧th≤65536
  · exact (a.1 e).uniq (b.1 e)
  · rw [a.2 e,b.2 e]
theorem LabR.no {w h m th:Int} {l:List Int} (e:¬(Bl.rok w h m l∧0≤th∧th≤65536)):LabR w h m l th []:=⟨fun k=>absurd k e,fun _=>rfl⟩
theorem LabR.yes {w n:Nat} {h m th:Int} {l o:List Int} (e:Bl.rok w h m l∧0≤th∧th≤65536) (hn:l.length=n) (k:Lab n (ge l th) (nb false w n) o):LabR w h m l th o:=by
  subst hn;exact ⟨fun _=>k,fun x=>absurd e x⟩
theorem ask0 {w h m th:Int} {l:List Int}:(if Bl.rok w h m l then (if 0≤th∧th≤65536 then (0:Int) else 2) else 1)=0↔Bl.rok w h m l∧0≤th∧th≤65536:=by
  by_cases e:Bl.rok w h m l
  · rw [if_pos e]; by_cases k : 0 ≤ th ∧ th ≤ 65536
    · rw [if_pos k];exact ⟨fun _=>⟨e,k⟩,fun _=>rfl⟩
    · rw [if_neg k];exact ⟨fun x=>by omega,fun x=>absurd x.2 k⟩
  · rw [if_neg e];exact ⟨fun x=>by omega,fun x=>absurd x.1 e⟩
theorem rok_n {w h m:Int} {l:List Int} {n:Nat} (e:Bl.rok w h m l) (hn:l.length=n):∃a b:Nat,w=(a:Int)∧h=(b:Int)∧(1≤a∧a≤64)∧(1≤b∧b≤64)∧n=a*b∧n≤4096:=by
  obtain ⟨h1,h2,_,h4,_⟩:=e
  obtain ⟨a,ha⟩:∃a:Nat,w=(a:Int):=⟨w.toNat,by omega⟩
  obtain ⟨b,hb⟩:∃b:Nat,h=(b:Int):=⟨h.toNat,by omega⟩
  subst ha;subst hb
  rw [← Int.natCast_mul] at h4
  have h5:n=a*b:=by omega
  have h6:a*b≤64*64:=Nat.mul_le_mul (by omega) (by omega)
  exact ⟨a,b,rfl,rfl,by omega,by omega,h5,by omega⟩
end Go.Proofs.Ytefbbhiaalcjfaa.Fl
namespace Go.Proofs.Ytefbbhiaalcjfaa.Sp
open Go
set_option linter.unusedVariables false
set_option maxRecDepth 100000
set_option maxHeartbeats 8000000
theorem zdc {w:Nat} {h:Nat} {m:Int} {p:Option Addr} {n:Nat} {cap:Nat} {l:List Int} {th:Int} (hn:l.length=n) (hw:1≤w∧w≤64) (hh:1≤h∧h≤64) (hwh:n=w*h) (hb:n≤4096):Con Try.prog 34 [.agg #[.int .i64 ((w:Nat):Int),.int .i64 ((h:Nat):Int),.int .i64 m,.slice p n cap],.int .i64 th] [] [slF (rI .i64) p cap l] (Y:=(Option Addr)×Nat×(List Int)×(Nat→Nat)) (fun y=>Fl.Lst (fun j=>Fl.ge l th j=true) (Fl.nb false w n) y.2.2.2∧Fl.OutI n (Fl.ge l th) y.2.2.2 n y.2.2.1) (fun y=> .tuple #[.slice (y.1) n (y.2.1),.int .i64 (((Fl.cnt (Fl.ldr (Fl.ge l th) y.2.2.2) n):Nat):Int)]) (fun y=>[]) (fun y=>[slF (rI .i64) (y.1) (y.2.1) (y.2.2.1)]):=by
 refine zr Try.func34 rfl rfl rfl (fun c=> ?_)
 show RunC _ _ _ _ _ [(0,.agg #[.int .i64 ((w:Nat):Int),.int .i64 ((h:Nat):Int),.int .i64 m,.slice p n cap]),(1,.int .i64 th)] [] [slF (rI .i64) p cap l]
 refine zca 0 rfl (fun hL0=> ?_)
 refine zi<|zc<|zS rfl rfl (zX rfl rfl) (fun b1=> ?_)
 refine zS rfl rfl (zX rfl rfl) (fun b2=> ?_)
 refine r_pv rfl rfl (zd rfl)<|r_pv rfl rfl (zd rfl)<|zj<|ze<|zi<|zfb 0 rfl .z<|zja (OW:=[]) (O:=[emA,boxA b1 24 [.int .i64 ((w:Nat):Int),.int .i64 ((h:Nat):Int),.int .i64 m,.slice p n cap]]) 100000 mixed (.then .ret) (by kernel_rfl)<|d_u 0 rfl rfl (by kernel_rfl) (by kernel_rfl) rfl rfl (zh 1 ty24 rfl rfl (.take (.take (.take (.take .nil)))))<|d_pv 1 rfl rfl (by kernel_rfl) (by kernel_rfl) rfl rfl (zQa .n (.c rfl .n))<|zV 2 (by kernel_rfl) (zT rfl rfl rfl rfl (.n) ce58 (zWe) (.n) ?_)
 rintro ⟨p33,c34⟩ -
 dsimp only [List.append_eq,List.nil_append,List.cons_append]
 refine zV 3 (by kernel_rfl) (zT rfl rfl rfl rfl (.c rfl (.c rfl (.c rfl .n))) ce36 (zrd (w:=w) (h:=h) (m:=m) (p:=p) (n:=n) (cap:=cap) (l:=l) (tb:=b2) (th:=th) (p2:=p33) (c2:=c34) (hn:=by assumption) (hw:=by assumption) (hh:=by assumption) (hwh:=by assumption) (hb:=by assumption)) (.c (j:=2) rfl (.c (j:=1) rfl (.c (j:=0) rfl .n))) ?_)
 rintro ⟨p35,c36,o,cc⟩ hcl
 dsimp only [List.append_eq,List.nil_append,List.cons_append]
 replace hcl:Fl.Lst (fun j=>(Fl.ge l th) j=true) (Fl.nb false w n) cc∧Fl.OutI n (Fl.ge l th) cc n o:=hcl
 refine d_pv 4 rfl rfl (by kernel_rfl) (by kernel_rfl) rfl rfl (zp rfl rfl)<|d_pv 5 rfl rfl (by kernel_rfl) (by kernel_rfl) rfl rfl (zp rfl rfl)<|d_pv 6 rfl rfl (by kernel_rfl) (by kernel_rfl) rfl rfl (zd rfl)<|d_pv 7 rfl rfl (by kernel_rfl) (by kernel_rfl) rfl rfl (zd rfl)<|zga (by kernel_rfl)<|ze<|zI ?_
 exact zva Try.results34 (p35,c36,o,cc) hcl (zq rfl) (zq rfl) rfl (ho:=(.n:PickO _ _ _)) ((.c (j:=0) rfl .n):SelR _ _ _)
theorem zwe {w:Int} {h:Int} {m:Int} {p:Option Addr} {n:Nat} {cap:Nat} {l:List Int} {th:Int} (hn:l.length=n):Con Try.prog 11 [.agg #[.int .i64 w,.int .i64 h,.int .i64 m,.slice p n cap],.int .i64 th] [] [slF (rI .i64) p cap l] (Y:=(Option Addr)×Nat×(List Int)) (fun y=>Fl.LabR w h m l th y.2.2) (fun y=> .tuple #[.slice (y.1) (y.2.2.length) (y.2.1),.int .i64 (if Bl.rok w h m l then (if 0≤th∧th≤65536 then 0 else 2) else 1)]) (fun y=>[]) (fun y=>[slF (rI .i64) (y.1) (y.2.1) (y.2.2)]):=by
 refine zr Try.func11 rfl rfl rfl (fun c=> ?_)
 show RunC _ _ _ _ _ [(0,.agg #[.int .i64 w,.int .i64 h,.int .i64 m,.slice p n cap]),(1,.int .i64 th)] [] [slF (rI .i64) p cap l]
 refine zca 0 rfl (fun hL0=> ?_)
 refine zi<|zc<|zS rfl rfl (zX rfl rfl) (fun b1=> ?_)
 refine r_pv rfl rfl (zd rfl)<|r_pv rfl rfl (zd rfl)<|zj<|ze<|zi<|zi<|zc<|r_u rfl rfl (zh 0 ty24 rfl rfl (.take (.take (.take (.take .nil)))))<|r_pv rfl rfl (zb rfl)<|zO rfl rfl (.c rfl (.c rfl .n)) ce33 (zzb (w:=w) (h:=h) (m:=m) (p:=p) (n:=n) (cap:=cap) (l:=l) (th:=th) (hn:=by assumption)) (.c (j:=0) rfl .n)<|r_pv rfl rfl (zd rfl)<|zj<|ze<|zi<|zc<|r_pv rfl rfl (zb rfl)<|r_pv rfl rfl (zIa rfl rfl)<|zj<|ze<|zD rfl (fun hc=> ?_) (fun hc=> ?_)
 ·
  have hno:=fun k=>hc (Fl.ask0.2 k)
  refine zi<|zc<|r_pv rfl rfl (zb rfl)<|r_pv rfl rfl (zd rfl)<|r_pv rfl rfl (zd rfl)<|zj<|ze<|zI<|zt<|zbc (rI .i64) ?_
  exact zva Try.results11 (none,0,[]) (Fl.LabR.no hno) (zq rfl) (zq rfl) rfl (ho:=(.n:PickO _ _ _)) ((.c (j:=0) rfl .n):SelR _ _ _)
 ·
  have hok:=Fl.ask0.1 (Decidable.not_not.1 hc)
  obtain ⟨wn,hn9,rfl,rfl,hw9,hh9,hwh,hb9⟩:=Fl.rok_n hok.1 hn
  refine zA<|ze<|zi<|zc<|r_u rfl rfl (zh 0 ty24 rfl rfl (.take (.take (.take (.take .nil)))))<|r_pv rfl rfl (zb rfl)<|zB rfl rfl (.c rfl (.c rfl .n)) ce34 (zdc (w:=wn) (h:=hn9) (m:=m) (p:=p) (n:=n) (cap:=cap) (l:=l) (th:=th) (hn:=by assumption) (hw:=by first|rfl|assumption|omega) (hh:=by first|rfl|assumption|omega) (hwh:=by first|rfl|assumption|omega) (hb:=by first|rfl|assumption|omega)) (.c (j:=0) rfl .n) ?_
  rintro ⟨p32,c33,o,cc⟩ hcl
  dsimp only [List.append_eq,List.nil_append,List.cons_append]
  replace hcl:Fl.Lst (fun j=>Fl.ge l th j=true) (Fl.nb false wn n) cc∧Fl.OutI n (Fl.ge l th) cc n o:=hcl
  refine r_pv rfl rfl (zb rfl)<|r_pv rfl rfl (zp rfl rfl)<|r_pv rfl rfl (zp rfl rfl)<|r_pv rfl rfl (zd rfl)<|r_pv rfl rfl (zd rfl)<|zj<|ze<|zi<|zc<|r_pv rfl rfl (zb rfl)<|r_pv rfl rfl (zd rfl)<|r_pv rfl rfl (zd rfl)<|zj<|ze<|zI ?_
  have hol:=hcl.2.len
  exact zva Try.results11 (p32,c33,o) (Fl.LabR.yes hok hn (hcl.2.lab hcl.1 (fun j hj=>by have:=Fl.ge_lt hj;omega))) (zq rfl) (zq rfl) (by rw [Decidable.not_not.1 hc,hol]) (ho:=(.n:PickO _ _ _)) ((.c (j:=0) rfl .n):SelR _ _ _)
end Go.Proofs.Ytefbbhiaalcjfaa.Sp
namespace Go.Proofs.Ytefbbhiaalcjfaa.Fl
open Sp
def edg (w h k:Nat):Bool:=decide (k%w=0∨k / w=0∨k%w+1=w∨k / w+1=h)
theorem edg_iff {w h k:Nat}:edg w h k=true↔(k%w=0∨k / w=0∨k%w+1=w∨k / w+1=h):=by simp [edg]
def brd (n:Nat) (f:Nat→Bool) (c:Nat→Nat) (g:Nat→Bool) (j:Nat):Bool:=(List.range n).any (fun k=>f k&&g k&&decide (c k=j))
theorem brd_iff {n:Nat} {f:Nat→Bool} {c:Nat→Nat} {g:Nat→Bool} {j:Nat}:brd n f c g j=true↔∃k,k<n∧f k=true∧g k=true∧c k=j:=by
  simp [brd,and_assoc]
def hol (n:Nat) (f:Nat→Bool) (c:Nat→Nat) (g:Nat→Bool):Nat:=cnt (fun j=>ldr f c j&& !brd n f c g j) n
theorem cnt_split (q b:Nat→Bool) (i:Nat):cnt q i=cnt (fun j=>q j&&b j) i+cnt (fun j=>q j&& !b j) i:=by
  induction i with
  |zero=>rfl
  |succ i ih=>rw [cnt_succ,cnt_succ,cnt_succ,ih];cases q i <;> cases b i <;> simp <;> omega
section
variable {n i : Nat} {f g : Nat → Bool} {adj : Nat → Nat → Prop} {c d : Nat → Nat}
theorem brd_uniq (hc:Lst (fun j=>f j=true) adj c) (hd:Lst (fun j=>f j=true) adj d):brd n f c g=brd n f d g:=by
  funext j
  rw [Bool.eq_iff_iff,brd_iff,brd_iff]
  exact ⟨fun ⟨k,h1,h2,h3,h4⟩=>⟨k,h1,h2,h3,by rw [← hc.uniq hd h2];exact h4⟩,fun ⟨k,h1,h2,h3,h4⟩=>⟨k,h1,h2,h3,by rw [hc.uniq hd h2];exact h4⟩⟩
theorem hol_uniq (hc:Lst (fun j=>f j=true) adj c) (hd:Lst (fun j=>f j=true) adj d):hol n f c g=hol n f d g:=by
  unfold hol;rw [ldr_uniq hc hd,brd_uniq hc hd]
structure OpnI (f:Nat→Bool) (c:Nat→Nat) (g:Nat→Bool) (i:Nat) (mp:List (Int×Bool)):Prop where
  nd:(mp.map (·.1)).Nodup
  mem:∀z,z∈mp.map (·.1)↔∃k,k<i∧f k=true∧g k=true∧z=(cnt (ldr f c) (c k):Int)
theorem OpnI.start:OpnI f c g 0 []:=⟨by simp,fun z=>⟨fun h=>(by cases h),fun ⟨_,h,_⟩=>(by omega)⟩⟩
theorem OpnI.skip {mp:List (Int×Bool)} (h:OpnI f c g i mp) (hx:¬(f i=true∧g i=true)):OpnI f c g (i+1) mp:=
  ⟨h.nd,fun z=>(h.mem z).trans ⟨fun ⟨k,a,b⟩=>⟨k,by omega,b⟩,fun ⟨k,a,b,e,e2⟩=>⟨k,by
    by_cases x:k=i
    · exact absurd ⟨x ▸ b,x ▸ e⟩ hx
    · omega,b,e,e2⟩⟩⟩
theorem OpnI.put {mp:List (Int×Bool)} (h:OpnI f c g i mp) (hf:f i=true) (hg:g i=true):OpnI f c g (i+1) (mput mp (cnt (ldr f c) (c i):Int) true):=by
  refine ⟨mput_nodup h.nd,fun z=> ?_⟩
  have key:z∈(mput mp (cnt (ldr f c) (c i):Int) true).map (·.1)↔z∈mp.map (·.1)∨z=(cnt (ldr f c) (c i):Int):=by
    rw [mput_keys];split
    · rename_i hm;exact ⟨.inl,fun x=>x.elim id fun x=>x ▸ hm⟩
    · simp
  rw [key,h.mem]
  constructor
  · rintro (⟨k, a, b⟩ | e)
    · exact ⟨k,by omega,b⟩
    · exact ⟨i,by omega,hf,hg,e⟩
  · rintro ⟨k, a, b, e, e2⟩
    by_cases x:k=i
    · subst x;exact .inr e2
    · exact .inl ⟨k,by omega,b,e,e2⟩
theorem OpnI.fin {mp:List (Int×Bool)} (hc:Lst (fun j=>f j=true) adj c) (hn:∀j,f j=true→j<n) (h:OpnI f c g n mp):mp.length=cnt (fun j=>ldr f c j&&brd n f c g j) n:=by
  have hP:((((List.range n).filter (fun j=>ldr f c j&&brd n f c g j)).map (fun j=>(cnt (ldr f c) j:Int)))).Nodup:=by
    refine List.pairwise_map.2 (List.Pairwise.imp_of_mem (fun {a b} ha _ hlt=> ?_) (List.Pairwise.filter _ (List.pairwise_lt_range (n:=n))))
    have h1:=(List.mem_filter.1 ha).2
    rw [Bool.and_eq_true] at h1
    have:=cnt_lt (ldr f c) hlt h1.1
    intro e;omega
  have hp:=(List.perm_ext_iff_of_nodup h.nd hP).2 fun z=>by
    rw [h.mem,List.mem_map]
    constructor
    · rintro ⟨k, a, b, e, e2⟩
      refine ⟨c k,List.mem_filter.2 ⟨List.mem_range.2 (hn _ (hc.mem b)),?_⟩,e2.symm⟩
      rw [Bool.and_eq_true]
      exact ⟨ldr_iff.2 ⟨hc.mem b,hc.idem b⟩,brd_iff.2 ⟨k,a,b,e,rfl⟩⟩
    · rintro ⟨j, hj, e2⟩
      have h1:=(List.mem_filter.1 hj).2
      rw [Bool.and_eq_true] at h1
      obtain ⟨k,a,b,e,e3⟩:=brd_iff.1 h1.2
      exact ⟨k,a,b,e,by rw [e3];exact e2.symm⟩
  have:=hp.length_eq
  rw [List.length_map,List.length_map] at this
  exact this
theorem OpnI.hol {mp:List (Int×Bool)} (hc:Lst (fun j=>f j=true) adj c) (hn:∀j,f j=true→j<n) (h:OpnI f c g n mp):((cnt (ldr f c) n:Nat):Int) - ((mp.length:Nat):Int)=(hol n f c g:Int):=by
  rw [h.fin hc hn,cnt_split (ldr f c) (brd n f c g) n];unfold Fl.hol;omega
structure BdI (n:Nat) (c:Nat→Nat) (g:Nat→Bool) (i:Nat) (b:List Bool):Prop where
  len:b.length=n
  iff:∀j,j<n→(b.getD j false=true↔∃k,k<i∧g k=true∧c k=j)
theorem getD_setB {b:List Bool} {j k:Nat} {v:Bool} (h:k<b.length):(b.set k v).getD j false=if j=k then v else b.getD j false:=by
  rw [List.getD_eq_getElem?_getD,List.getElem?_set]
  by_cases e:k=j
  · subst e;simp [h]
  · rw [if_neg e,if_neg (fun x=>e x.symm),←List.getD_eq_getElem?_getD]
theorem BdI.start:BdI n c g 0 (List.replicate n false):=⟨by simp,fun j hj=>by
  rw [List.getD_eq_getElem?_getD,List.getElem?_replicate];simp [hj]⟩
theorem BdI.skip {b:List Bool} (h:BdI n c g i b) (hg:¬g i=true):BdI n c g (i+1) b:=
  ⟨h.len,fun j hj=>(h.iff j hj).trans ⟨fun ⟨k,a,e⟩=>⟨k,by omega,e⟩,fun ⟨k,a,e,e2⟩=>⟨k,by
    by_cases x:k=i
    · exact absurd (x ▸ e) hg
    · omega,e,e2⟩⟩⟩
theorem BdI.put {b:List Bool} (h:BdI n c g i b) (hg:g i=true) (hk:c i<n):BdI n c g (i+1) (b.set (c i) true):=by
  refine ⟨by rw [List.length_set];exact h.len,fun j hj=> ?_⟩
  rw [getD_setB (by rw [h.len];exact hk)]
  by_cases e:j=c i
  · rw [if_pos e];exact ⟨fun _=>⟨i,by omega,hg,e.symm⟩,fun _=>rfl⟩
  · rw [if_neg e, h.iff j hj]
    exact ⟨fun ⟨k,a,b⟩=>⟨k,by omega,b⟩,fun ⟨k,a,b1,b2⟩=>⟨k,by
      by_cases x:k=i
      · exact absurd (by rw [← b2,x]) e
      · omega,b1,b2⟩⟩
theorem BdI.brd {b:List Bool} (h:BdI n c g n b) (hc:Lst (fun j=>f j=true) adj c) (ho:∀k,k<n→¬f k=true→c k=k) {j:Nat} (hj:j<n) (hf:f j=true):b.getD j false=brd n f c g j:=by
  rw [Bool.eq_iff_iff,h.iff j hj,brd_iff]
  exact ⟨fun ⟨k,a,e,e2⟩=>⟨k,a,by
    by_cases x:f k=true
    · exact x
    · rw [ho k a x] at e2;exact absurd (e2 ▸ hf) x,e,e2⟩,fun ⟨k,a,_,e,e2⟩=>⟨k,a,e,e2⟩⟩
theorem cnt_congr {q r:Nat→Bool} {i:Nat} (h:∀j,j<i→q j=r j):cnt q i=cnt r i:=by
  induction i with
  |zero=>rfl
  |succ i ih=>rw [cnt_succ,cnt_succ,ih (fun j hj=>h j (by omega)),h i (by omega)]
theorem BdI.hol {b:List Bool} (h:BdI n c g n b) (hc:Lst (fun j=>f j=true) adj c) (ho:∀k,k<n→¬f k=true→c k=k):cnt (fun j=>ldr f c j&& !(b.getD j false)) n=hol n f c g:=by
  refine cnt_congr fun j hj=> ?_
  by_cases e:f j=true
  · rw [h.brd hc ho hj e]
  · simp [ldr,e]
end
def HolR (w h m:Int) (l:List Int) (th:Int) (z:Int):Prop:=
  (Bl.rok w h m l∧0≤th∧th≤65536→∃c,Lst (fun j=>lo l th j=true) (nb true w.toNat l.length) c∧z=(hol l.length (lo l th) c (edg w.toNat h.toNat):Int))∧(¬(Bl.rok w h m l∧0≤th∧th≤65536)→z=0)
theorem HolR.uniq {w h m th:Int} {l:List Int} {z y:Int} (a:HolR w h m l th z) (b:HolR w h m l th y):z=y:=by
  by_cases e:Bl.rok w h m l∧0≤th∧th≤65536
  · obtain ⟨c, hc, h1⟩ := a.1 e
    obtain ⟨d,hd,h2⟩:=b.1 e
    rw [h1,h2,hol_uniq hc hd]
  · rw [a.2 e,b.2 e]
theorem HolR.no {w h m th:Int} {l:List Int} (e:¬(Bl.rok w h m l∧0≤th∧th≤65536)):HolR w h m l th 0:=⟨fun k=>absurd k e,fun _=>rfl⟩
theorem HolR.yes {w h n:Nat} {m th z:Int} {l:List Int} {c:Nat→Nat} (e:Bl.rok w h m l∧0≤th∧th≤65536) (hn:l.length=n) (hc:Lst (fun j=>lo l th j=true) (nb true w n) c) (hz:z=(hol n (lo l th) c (edg w h):Int)):HolR w h m l th z:=by
  subst hn;exact ⟨fun _=>⟨c,hc,hz⟩,fun x=>absurd e x⟩
end Go.Proofs.Ytefbbhiaalcjfaa.Fl
