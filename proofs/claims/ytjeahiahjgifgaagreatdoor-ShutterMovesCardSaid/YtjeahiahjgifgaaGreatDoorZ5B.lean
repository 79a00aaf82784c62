/- Lemmas on the walk and plain lemmas that the claim of this folder uses; each states its own conditions. Lines were printed by a program of ours. -/
import Derived.Test.YtjeahiahjgifgaaGreatDoorZ5A
set_option linter.unusedVariables false
set_option linter.unusedSimpArgs false
set_option linter.unusedSectionVars false
open Go.Value renaming int → yc, pointer → ye
open Go.IntKind renaming i64 → yd
open Go.Proofs.YtjeahiahjgifgaaGreatDoor.Big renaming digs → yf, valL → yj, raw → yp, trimL → yt, sg → yu, okL → yx, okL_getD → yz, raw_big → yA, digs_ok → yB, pw → yE, valL_digs → yF, raw_digs → yG, ln → yH, okL_snoc → yI, cmp → yJ
open Go.Proofs.Tryz renaming underlying40 → yg, underlying27 → yh, underlying113 → yi, underlying29 → yk, underlying25 → yl, prog → ym, underlying3 → yn, underlying42 → yo, underlying51 → yq, underlying130 → yr, underlying131 → yv, underlying23 → yw, results12 → yC, underlying92 → yD
namespace Go.Proofs.YtjeahiahjgifgaaGreatDoor.Sp
open Go
set_option linter.unusedVariables false
structure Wd where
  s:Bool
  p:Option Addr
  n:Nat
  c:Nat
@[reducible] def Wd.b (w : Wd) : Value := .bool w.s
@[reducible] def Wd.l (w : Wd) : Value := .slice w.p w.n w.c
@[reducible] def cw : List Wd → List Value
  |[]=>[]
  |w :: l=>w.b :: w.l :: cw l
def wz:Wd:=⟨false,none,0,0⟩
def Wd.is (g:Hp) (w:Wd) (z:Int):Prop:=w.s=decide (z<0)∧w.n=(yf z.natAbs).length∧Sl (rI .u32) g w.p w.c (yf z.natAbs)
def zF (w:Wd) (z:Int):Fa:=⟨fun g=>w.is g z,fun _ _ h k=>⟨k.1,k.2.1,k.2.2.mono h⟩⟩
def lb (n k:Nat):Array Bool:=⟨(List.range n).map (Nat.testBit k)⟩
section
variable {P : Program} {c : Cx} {n : Sz} {Q : Exit → Act → World → Prop} {m : Fm} {O : List As} {R : List Fa} {f : Nat}
theorem Mem.fact {w:World} {r:Fa} (h:∀g,Holds g R→r.on g) (mm:Mem c w O R):Mem c w O (r :: R):=
  mm.weaken fun hh g s r' a=>⟨hh,g,s,⟨h g r',r'⟩,Hp.le_refl _,Hp.le_refl _,a,fun _ _ e=> .inl e⟩
theorem zbb {e:Exit} (r:Fa) (h:∀g,Holds g R→r.on g) (k:Post c n Q e m O (r :: R)):Post c n Q e m O R:=fun a w f mm=>k a w f (mm.fact h)
theorem Mem.mapR {w:World} {R':List Fa} (h:∀g,Holds g R→Holds g R') (mm:Mem c w O R):Mem c w O R':=
  mm.weaken fun hh g s r' a=>⟨hh,g,s,h g r',Hp.le_refl _,Hp.le_refl _,a,fun _ _ e=> .inl e⟩
theorem Con.told {A:List Value} {Y Z:Type} {φ:Y→Prop} {val:Y→Value} {O':Y→List As} {R':Y→List Fa} {ψ:Z→Prop} {val2:Z→Value} {O2:Z→List As} {R2:Z→List Fa} (h:Con P f A O R φ val O' R') (t:Y→Z)
    (hv:∀y,val y=val2 (t y)) (hp:∀y,φ y→ψ (t y)) (ho:∀y,O' y=O2 (t y)) (hR:∀y,φ y→∀g,Holds g (R' y)→Holds g (R2 (t y))):Con P f A O R ψ val2 O2 R2:=fun w hh g s r ap h1 h2=>
  (h w hh g s r ap h1 h2).mono fun e w' ⟨y,e1,e2,e3⟩=>⟨t y,by rw [e1,hv],hp y e2,by rw [← ho];exact Mem.mapR (hR y e2) e3⟩
theorem Con.of {A:List Value} {Y:Type} {φ:Y→Prop} {val:Y→Value} {O':Y→List As} {R':Y→List Fa} {X:Type} {ψ:X→Prop} {A2:X→List Value} {R2:X→List Fa}
    (h:∀x,ψ x→Con P f (A2 x) O (R2 x) φ val O' R') (hx:∀g,Holds g R→∃x,ψ x∧A2 x=A∧Holds g (R2 x)):Con P f A O R φ val O' R':=fun w hh g s r ap h1 h2=>by
  obtain ⟨x,hp,e,r2⟩:=hx g r
  have:=h x hp w hh g s r2 ap h1 h2
  rw [e] at this;exact this
abbrev bigL (z:Int) (p:Option Addr) (c:Nat):List Value:=[.bool (decide (z<0)),.slice p (yf z.natAbs).length c]
abbrev bigS (z:Int) (p:Option Addr) (c:Nat):Fa:=slF (rI .u32) p c (yf z.natAbs)
theorem Wd.eq {g:Hp} {w:Wd} {z:Int} (h:w.is g z):[w.b,w.l]=bigL z w.p w.c:=by rw [Wd.b,Wd.l,h.1,h.2.1]
theorem zGd {z:Int} {w:Wd} {Y:Type} {φ:Y→Prop} {val:Y→Value} {O':Y→List As} {R':Y→List Fa} (h:∀p c,Con P f [.agg (bigL z p c).toArray] O [bigS z p c] φ val O' R'):Con P f [.agg #[w.b,w.l]] O [zF w z] φ val O' R':=
  Con.of (X:=Unit) (ψ:=fun _=>True) (A2:=fun _=>[.agg (bigL z w.p w.c).toArray]) (R2:=fun _=>[bigS z w.p w.c]) (fun _ _=>h w.p w.c) fun g r=>⟨(),trivial,by rw [← Wd.eq r.1],r.1.2.2,trivial⟩
theorem zBc {z1 z2:Int} {w1 w2:Wd} {Y:Type} {φ:Y→Prop} {val:Y→Value} {O':Y→List As} {R':Y→List Fa} (h:∀p1 c1 p2 c2,Con P f [.agg (bigL z1 p1 c1).toArray,.agg (bigL z2 p2 c2).toArray] O [bigS z1 p1 c1,bigS z2 p2 c2] φ val O' R'):Con P f [.agg #[w1.b,w1.l],.agg #[w2.b,w2.l]] O [zF w1 z1,zF w2 z2] φ val O' R':=
  Con.of (X:=Unit) (ψ:=fun _=>True) (A2:=fun _=>[.agg (bigL z1 w1.p w1.c).toArray,.agg (bigL z2 w2.p w2.c).toArray]) (R2:=fun _=>[bigS z1 w1.p w1.c,bigS z2 w2.p w2.c]) (fun _ _=>h w1.p w1.c w2.p w2.c) fun g r=>⟨(),trivial,by rw [← Wd.eq r.1,←Wd.eq r.2.1],r.1.2.2,r.2.1.2.2,trivial⟩
theorem zac {z:Int} {A:List Value} (h:Con P f A O R (Y:=Option Addr×Nat) (fun _=>True) (fun y=> .agg (bigL z y.1 y.2).toArray) (fun _=>[]) (fun y=>[bigS z y.1 y.2])):Con P f A O R (Y:=Wd) (fun _=>True) (fun w=> .agg #[w.b,w.l]) (fun _=>[]) (fun w=>[zF w z]):=
  h.told (fun y=>⟨decide (z<0),y.1,(yf z.natAbs).length,y.2⟩) (fun _=>rfl) (fun _ _=>trivial) (fun _=>rfl) (fun y _ g r=>⟨⟨rfl,rfl,r.1⟩,trivial⟩)
end
section
variable {P : Program} {c : Cx} {n : Sz} {Q : Exit → Act → World → Prop} {m : Fm} {O OW : List As} {R R' : List Fa} {ops : Array Oper} {ro : Option Nat} {l : List Oper} {wi k : Nat} {L : Array Bool} {α : Type} {d : Option Tmp} {ty : TypeId} {ps : String} {af : Array Edge} {gd : Option (Nat × Bool)}
def PartsG (m:Fm) (R:List Fa) (r:Rp α):Nat→List (Nat×Operand)→List (Nat×Value)→List α→List (List Value)→Prop
  |_,[],[],[],[]=>True
  |i,(i1,x0) :: xs,(i2,v) :: vs,x :: es,cs :: css=>i1=i∧i2=i∧evo m x0=some v∧v.cells=cs.toArray∧(∀g,Holds g R→∃γ,r.enc x γ=cs∧r.ok g x γ)∧cs.length=r.sz∧PartsG m R r (i+1) xs vs es css
  |_,_,_,_,_=>False
theorem PartsG.evp {r:Rp α}:∀{i:Nat} {xs:List (Nat×Operand)} {vs:List (Nat×Value)} {es:List α} {css:List (List Value)},PartsG m R r i xs vs es css→evp m xs vs
  |_,[],[],[],[],_=>trivial
  |_,(_,_) :: _,(_,_) :: _,_ :: _,_ :: _,⟨h1,h2,h,_,_,_,k⟩=>⟨h1.trans h2.symm,h,PartsG.evp k⟩
theorem PartsG.len {r:Rp α}:∀{i:Nat} {xs:List (Nat×Operand)} {vs:List (Nat×Value)} {es:List α} {css:List (List Value)},PartsG m R r i xs vs es css→css.flatten.length=es.length*r.sz
  |_,[],[],[],[],_=>by simp
  |_,(_,_) :: _,(_,_) :: _,_ :: es,_ :: css,⟨_,_,_,_,_,hl,k⟩=>by
    have:=PartsG.len k
    simp only [List.flatten_cons,List.length_append,hl,this,List.length_cons,Nat.succ_mul];omega
theorem PartsG.fill {r:Rp α}:∀{i:Nat} {xs:List (Nat×Operand)} {vs:List (Nat×Value)} {es:List α} {css:List (List Value)},PartsG m R r i xs vs es css→∀(pre rest:List Value),pre.length=i*r.sz→rest.length=es.length*r.sz→
    Fill (fun i=>some (i*r.sz,r.sz)) (pre++rest) vs (pre++css.flatten)
  |_,[],[],[],[],_,pre,rest,hp,hr=>by
    have:rest=[]:=List.eq_nil_of_length_eq_zero (by simpa using hr)
    subst this;rfl
  |i,(_,_) :: _,(_,_) :: _,x :: es,cs :: css,⟨h1,h2,h,hv,_,hl,k⟩,pre,rest,hp,hr=>by
    subst h2
    refine ⟨_*r.sz,r.sz,cs,pre++(cs++rest.drop r.sz),rfl,hv,hl,⟨?_,?_⟩,?_⟩
    · simp only [List.length_append,hp,hl,hr,List.length_cons,Nat.succ_mul];omega
    · rw [hl, ← hp, List.take_left, List.drop_append]
      have:pre.drop (pre.length+r.sz)=[]:=List.drop_eq_nil_of_le (by omega)
      rw [this,List.nil_append,show pre.length+r.sz - pre.length=r.sz by omega,List.append_assoc]
    · have := PartsG.fill k (pre ++ cs) (rest.drop r.sz) (by rw [List.length_append, hp, hl, Nat.succ_mul]) (by rw [List.length_drop, hr, List.length_cons, Nat.succ_mul]; omega)
      simpa [List.append_assoc] using this
theorem PartsG.els {r:Rp α} {g:Hp} (hr:Holds g R):∀{i:Nat} {xs:List (Nat×Operand)} {vs:List (Nat×Value)} {es:List α} {css:List (List Value)},PartsG m R r i xs vs es css→Els r g css.flatten 0 es
  |_,[],[],[],[],_=>fun i x e=>by simp at e
  |_,(_,_) :: _,(_,_) :: _,x :: es,cs :: css,⟨_,_,h,hv,hok,hl,k⟩=>fun i y e=>by
    cases i with
    |zero=>
      simp at e;subst e
      obtain ⟨γ,h1,h2⟩:=hok g hr
      refine ⟨γ,⟨r.len _ _,fun j v ev=> ?_⟩,h2⟩
      rw [h1] at ev
      have hj:=(List.getElem?_eq_some_iff.1 ev).1
      simp only [List.flatten_cons,Nat.zero_mul,Nat.zero_add]
      rw [List.getElem?_append_left hj];exact ev
    |succ i=>
      obtain ⟨γ,a1,a2⟩:=PartsG.els hr k i y (by simpa using e)
      refine ⟨γ,⟨a1.1,fun j v ev=> ?_⟩,a2⟩
      have:=a1.2 j v ev
      simp only [List.flatten_cons]
      rw [List.getElem?_append_right (by rw [hl,Nat.succ_mul];omega),hl]
      rw [show 0+(i+1)*r.sz+j - r.sz=0+i*r.sz+j by rw [Nat.succ_mul];omega];exact this
end
theorem PartsG.n {α:Type} {m:Fm} {R:List Fa} {r:Rp α} {i:Nat}:PartsG m R r i [] [] [] []:=trivial
theorem PartsG.c {α:Type} {m:Fm} {R:List Fa} {r:Rp α} {i:Nat} {x0:Operand} {v:Value} {x:α} {cs:List Value} {xs:List (Nat×Operand)} {vs:List (Nat×Value)} {es:List α} {css:List (List Value)} (γ:r.G) (h:evo m x0=some v) (hv:v.cells=cs.toArray) (he:r.enc x γ=cs) (hok:∀g,Holds g R→r.ok g x γ) (k:PartsG m R r (i+1) xs vs es css):PartsG m R r i ((i,x0) :: xs) ((i,v) :: vs) (x :: es) (cs :: css):=
  ⟨rfl,rfl,h,hv,fun g hr=>⟨γ,he,hok g hr⟩,by rw [← he];exact r.len _ _,k⟩
section
variable {P : Program} {c : Cx} {n : Sz} {Q : Exit → Act → World → Prop} {m : Fm} {O : List As} {R : List Fa} {α : Type} {d : Option Tmp} {ty : TypeId} {ps : String} {af : Array Edge} {gd : Option (Nat × Bool)}
theorem RowOn.take {T:TypeId} {r:Rp α} {p:Option Addr} {cap:Nat} {l:List α} {g h:Hp} (k:Nat) (s:RowOn T r p cap l g h):RowOn T r p cap (l.take k) g h:=by
  rcases s with ⟨h1,h2,h3,h4⟩|⟨b,off,cells,e1,e2,e3,e4,e5,e6⟩
  · exact .inl ⟨h1,h2,by rw [h3];simp,h4⟩
  · refine .inr ⟨b, off, cells, e1, by rw [List.length_take]; omega, e3, e4, e5, fun i x e => e6 i x ?_⟩
    rw [List.getElem?_take] at e
    split at e
    · exact e
    · cases e
theorem Sep.mapAt {g:Hp} {A B:As} (hAB:∀h,A.on g h→B.on g h):∀{O:List As} (i:Nat) {h:Hp},O[i]? =some A→Sep g O h→Sep g (O.set i B) h
  |[],_,_,e,_=>by simp at e
  |_ :: _,0,_,e,⟨h1,h2,a,e1,x,y⟩=>by simp at e;subst e;exact ⟨h1,h2,a,e1,hAB _ x,y⟩
  |_ :: _,i+1,_,e,⟨h1,h2,a,e1,x,y⟩=>⟨h1,h2,a,e1,x,Sep.mapAt hAB i (by simpa using e) y⟩
theorem Mem.rowTake {w:World} (i:Nat) {T:TypeId} {r:Rp α} {p:Option Addr} {cap:Nat} {l:List α} (hi:O[i]? =some (rowA T r p cap l)) (k:Nat) (mm:Mem c w O R):Mem c w (O.set i (rowA T r p cap (l.take k))) R:=
  mm.resep fun g h s=>Sep.mapAt (fun _ x=>RowOn.take k x) i hi s
theorem zqd {s e T:TypeId} {x ix:Operand} {r:Rp α} {p:Option Addr} {k cap:Nat} {kk:IntKind} {z:Int} {xs:List α} (i j:Nat) (hi:O[i]? =some (rowA T r p cap xs)) (hu:P.underlying s=some (.slice e)) (ht:(P.info? e).map (·.size)=some r.sz)
    (h1:evo m x=some (.slice p k cap)) (hk:k≤xs.length) (h2:evo m ix=some (.int kk z)) (hz:z=(j:Int)) (hj:j<k):
    Vl P n ⟨d,.indexAddr s x ix,ty,ps,af,gd⟩ m O R (Y:=Unit) (fun _=>True) (fun _=>rowPtr p (j*r.sz)) (fun _=>[]):=fun a f hh g sp hr=>by
  obtain ⟨k1,k2,ap,e0,hA,_,_⟩:=Sep.pick i hi sp
  refine ⟨(),trivial,trivial,fun w _ _=> ?_⟩
  have hA':RowOn T r p cap xs g k1:=hA
  rcases hA' with ⟨_,_,rfl,_⟩|⟨b,off,cells,rfl,_⟩
  · simp at hk;omega
  · subst hz
    have hrun:=znb (P:=P) (a:=⟨b,off,none⟩) (cap:=cap) (kk:=kk) (w:=w) hu ht hj
    simp only [execOp,f.ev h1,f.ev h2,Sem.run_bind,hrun,Result.andThen_ok,Sem.run_pure,Addr.add_lit,rowPtr,Option.map_some]
end
theorem zmf {P:Program} {c:Cx} {n:Sz} {Q:Exit→Act→World→Prop} {m:Fm} {O:List As} {R:List Fa} {α:Type} {ro:Option Nat} {x:Code} {T:TypeId} {r:Rp α} {p:Option Addr} {cap:Nat} {l:List α} (i:Nat) (hi:O[i]? =some (rowA T r p cap l)) (k:l.length≤cap∧cap≤9223372036854775807→RunC (ro:=ro) P Q c n x m O R):RunC (ro:=ro) P Q c n x m O R:=fun a w f mm=>by
  obtain ⟨hh,g,m2⟩:=mm
  obtain ⟨k1,k2,_,_,hA,_,_⟩:=Sep.pick i hi m2.sep
  have hA':RowOn T r p cap l g k1:=hA
  refine k ?_ a w f ⟨hh,g,m2⟩
  rcases hA' with ⟨_,h2,h3,_⟩|⟨b,off,cells,_,e2,e3,_⟩
  · subst h2;subst h3;exact ⟨Nat.le_refl _,by decide⟩
  · unfold maxLen at e3;omega
theorem MemAt.stay {c:Cx} {w w':World} {O:List As} {R:List Fa} {h g g2:Hp} (m:MemAt c w O R h g) (k:Kept ⟨w,Hp.emp,g2⟩ w'):MemAt c w' O R h g:=by
  have key:∀(x:Hp),Has w x→Has w' x:=fun x hx b o e=>by
    have h1:=hx b o e
    have hlt:=(Array.getElem?_eq_some_iff.1 h1).1
    rw [k.block b hlt rfl];exact h1
  refine ⟨m.sep,m.holds,m.apart,key _ m.hasH,key _ m.hasG,m.le,m.newG,m.newH,k.os.trans m.kept.os,k.tape.trans m.kept.tape,k.output.trans m.kept.output,Nat.le_trans m.kept.size k.size,fun b hb e=> ?_⟩
  rw [k.block b (Nat.lt_of_lt_of_le hb m.kept.size) rfl]
  exact m.kept.block b hb e
section
variable {P : Program} {c : Cx} {n : Sz} {Q : Exit → Act → World → Prop} {m : Fm} {O OW : List As} {R R' : List Fa} {ops : Array Oper} {ro : Option Nat} {l : List Oper} {wi k : Nat} {L : Array Bool} {α : Type} {ty : TypeId} {ps : String} {af : Array Edge} {gd : Option (Nat × Bool)}
theorem borrow_call {o:Oper} {v:Value} {js:List Nat} {T:TypeId} {r:Rp α} {p:Option Addr} {cap:Nat} {xs:List α} (i:Nat) (hi:O[i]? =some (rowA T r p cap xs)) (h:Ef P n o m [] R' (Y:=Unit) (fun _=>True) (fun _=>v) (fun _=>[]) (fun _=>[])) (hs:SelR js (slF r p cap xs :: R) R')
    {a:Act} {w:World} {hh g:Hp} (f:Fr n a m) (sp:Sep g O hh) (hr:Holds g R) (ap:hh.apart g) (hH:Has w hh) (hG:Has w g) {K:Act→World→Prop} (hK:∀w' g2,Kept ⟨w,Hp.emp,g2⟩ w'→K (a.put o.dst v) w'):WpB P o a w K Q:=by
  obtain ⟨k1,k2,ap12,e0,hA,_,_⟩:=Sep.pick i hi sp
  have hA':RowOn T r p cap xs g k1:=hA
  have hk1:k1.le hh:=by rw [e0];exact Hp.le_joinL _ _
  have apk:k1.apart g:=by rw [e0] at ap;exact (Hp.apart_join.1 ap).1
  have hsl:=rowA_sl hA' apk
  have hR2:Holds (g.join k1) (slF r p cap xs :: R):=⟨hsl,Holds.mono (Hp.le_joinL _ _) hr⟩
  exact h a f w Hp.emp (g.join k1) rfl (hs.holds hR2) (Hp.emp_apart _) (fun _ _ e=>by cases e) (Has.join hG (Has.mono hH hk1)) _ _ (fun _ w' _ hM=>by
    obtain ⟨h',g',mm'⟩:=hM
    exact hK w' _ mm'.kept)
theorem znf {T:TypeId} {r:Rp α} {p:Option Addr} {cap:Nat} {zs:List α} (q:Nat) (hq:O[q]? =some (rowA T r p cap zs)) {i:Nat} {t0:Tmp} {xs:List Operand} {ats:Array TypeId} {f:Nat} {vs:List Value} {js:List Nat} {v:Value}
    (hne:Nat.beq i wi=false) (hi:ops[i]? =some ⟨some t0,.call ⟨.value (.func f),xs.toArray,ats⟩,ty,ps,af,gd⟩) (hw:wnt ops m ⟨some t0,.call ⟨.value (.func f),xs.toArray,ats⟩,ty,ps,af,gd⟩=some true) (hd:Nat.ble (t0+1) n.sz=true) (hx:evs m xs vs) (hc:CanEnter P f)
    (h:Con P f vs [] R' (Y:=Unit) (fun _=>True) (fun _=>v) (fun _=>[]) (fun _=>[])) (hs:SelR js (slF r p cap zs :: R) R')
    (kont:RunD P ops Q c n wi k (L.setIfInBounds i true) ((t0,v) :: m) OW O R):RunO P ops Q c n wi k L i m OW O R:=fun hQ hs' hcl hrd a w hw2 hr g fr s1 s2 ap mm=>by
  unfold wpOp
  simp only [hi]
  rw [if_pos (fr.wanted hw)]
  have he:Ef P n ⟨some t0,.call ⟨.value (.func f),xs.toArray,ats⟩,ty,ps,af,gd⟩ m [] R' (Y:=Unit) (fun _=>True) (fun _=>v) (fun _=>[]) (fun _=>[]):=zod (first:=[]) (cap:=[]) rfl hx hc (by simpa using h)
  have hrle:=Hp.le_joinR ap
  have aph:hr.apart g:=(Hp.apart_join.1 mm.apart).2
  refine .inl<|WpB.wp (borrow_call q hq he hs fr s2 mm.holds aph (Has.mono mm.hasH hrle) mm.hasG (fun w' g2 kp=> ?_))
  have mm2:=mm.stay kp
  exact ⟨⟨Has.mono mm2.hasH hrle,mm2.hasG,fun _=>Has.mono mm2.hasH (Hp.le_joinL _ _)⟩,kont hQ hs' (hcl.step hrd) _ w' hw2 hr g (fr.put (d:=some t0) hd _) s1 s2 ap mm2⟩
end
end Go.Proofs.YtjeahiahjgifgaaGreatDoor.Sp
namespace Go.Proofs.YtjeahiahjgifgaaGreatDoor.Big
theorem valL_drop (A:List Int) (k:Nat):valL (A.drop k)=A.getD k 0+1000000000*valL (A.drop (k+1)):=by
  rcases Nat.lt_or_ge k A.length with h|h
  · rw [List.drop_eq_getElem_cons h,List.getD_eq_getElem?_getD,List.getElem?_eq_getElem h];rfl
  · rw [List.drop_eq_nil_of_le h,List.drop_eq_nil_of_le (by omega),List.getD_eq_getElem?_getD,List.getElem?_eq_none h];rfl
theorem valL_cut (A:List Int) (k:Nat) (h:k≤A.length):valL A=valL (A.take k)+pw k*valL (A.drop k):=by
  have h1:=valL_append (A.take k) (A.drop k)
  rw [List.take_append_drop,List.length_take,Nat.min_eq_left h] at h1;exact h1
theorem okL_drop {l:List Int} (h:okL l) (k:Nat):okL (l.drop k):=fun d hd=>h d (List.mem_of_mem_drop hd)
theorem valL_take_lt {l:List Int} (h:okL l) (k:Nat):0≤valL (l.take k)∧valL (l.take k)<pw k:=by
  have h1:=valL_lt (okL_take h k)
  have h2:=valL_nonneg (okL_take h k)
  have h3:=pw_mono (show (l.take k).length≤k by rw [List.length_take];omega)
  omega
theorem pad_set {n:Nat} {qs:List Int} (x:Int):(List.replicate (n+1) 0++qs).set n x=List.replicate n 0++x :: qs:=by
  rw [List.replicate_succ',List.append_assoc,List.set_append_right _ _ (by simp)];simp
structure ShI (A:List Int) (d:Int) (k:Nat) (qs:List Int) (r:Int):Prop where
  le:k≤A.length
  len:qs.length=A.length - k
  ok:okL qs
  r0:0≤r
  r1:r<d
  eq:valL qs*d+r=valL (A.drop k)
theorem ShI.start {A:List Int} {d:Int} (hd:0<d):ShI A d A.length [] 0:=⟨Nat.le_refl _,by simp,okL_nil,Int.le_refl _,hd,by simp [valL]⟩
theorem sh_digit {r d g:Int} (h0:0≤r) (h1:r<d) (hg:0≤g∧g<1000000000):0≤(r*1000000000+g) / d∧(r*1000000000+g) / d<1000000000:=by
  refine ⟨Int.ediv_nonneg (by omega) (by omega),?_⟩
  refine Int.ediv_lt_of_lt_mul (by omega) ?_
  have:(r+1)*1000000000≤d*1000000000:=Int.mul_le_mul_of_nonneg_right (by omega) (by decide)
  rw [Int.mul_comm d] at this;omega
theorem ShI.step {A:List Int} {d:Int} {k:Nat} {qs:List Int} {r:Int} (h:ShI A d (k+1) qs r) (hA:okL A):ShI A d k ((r*1000000000+A.getD k 0) / d :: qs) ((r*1000000000+A.getD k 0)%d):=by
  have hg:=okL_getD hA k
  have h0:=h.r0;have h1:=h.r1;have hle:=h.le
  have hd:0<d:=by omega
  refine ⟨by omega,by simp only [List.length_cons,h.len];omega,okL_cons.2 ⟨sh_digit h0 h1 hg,h.ok⟩,Int.emod_nonneg _ (by omega),Int.emod_lt_of_pos _ hd,?_⟩
  rw [valL_drop,←h.eq]
  have e:=Int.mul_ediv_add_emod (r*1000000000+A.getD k 0) d
  simp only [valL]
  rw [Int.add_mul,Int.mul_comm _ d]
  have e2:1000000000*valL qs*d=1000000000*(valL qs*d):=Int.mul_assoc _ _ _
  omega
theorem ShI.fin {a m:Nat} {qs:List Int} {r:Int} (h:ShI (digs a) (m:Int) 0 qs r):trimL qs=digs (a / m)∧r=((a%m:Nat):Int):=by
  have e:=h.eq;have h0:=h.r0;have h1:=h.r1;have hn:=valL_nonneg h.ok
  rw [List.drop_zero,valL_digs] at e
  have hq:valL qs=((a / m:Nat):Int):=by
    rw [Int.natCast_ediv]
    symm
    have e3:(a:Int)=r+valL qs*(m:Int):=by omega
    rw [e3,Int.add_mul_ediv_right _ _ (by omega),Int.ediv_eq_zero_of_lt h0 h1];omega
  refine ⟨trimL_of h.ok hq,?_⟩
  rw [Int.natCast_emod]
  have e3:(a:Int)=r+valL qs*(m:Int):=by omega
  rw [e3,Int.add_mul_emod_self_right,Int.emod_eq_of_lt h0 h1]
structure LgI (M n:Nat) (a v:Int) (jj:Nat) (u qs:List Int):Prop where
  ul:u.length=M
  uo:okL u
  ql:qs.length=M - n - jj
  qo:okL qs
  jle:jj+n≤M
  eq:valL u+v*pw jj*valL qs=a
  lt:valL u<v*pw jj
structure Gs (T v vt top g r:Int):Prop where
  eq:g*vt+r=top
  r0:0≤r
  g0:0≤g
  up:T<(g+1)*v
structure Tp (T v vt vs u2 u1 u0 w:Int):Prop where
  w1:1≤w
  vt1:1≤vt
  vt2:vt<1000000000
  vs0:0≤vs
  vs1:vs<1000000000
  a0:0≤u0∧u0<1000000000
  a1:0≤u1∧u1<1000000000
  a2:0≤u2∧u2<1000000000
  vlo:(vt*1000000000+vs)*w≤v
  vhi:v<(vt*1000000000+vs+1)*w
  tlo:((u2*1000000000+u1)*1000000000+u0)*w≤T
  thi:T<((u2*1000000000+u1)*1000000000+u0+1)*w
  tv:T<v*1000000000
theorem mul_le_of {a b w:Int} (hw:0≤w) (h:a≤b):a*w≤b*w:=Int.mul_le_mul_of_nonneg_right h hw
theorem lt_of_mul {a b w:Int} (hw:1≤w) (h:a*w<b*w):a<b:=Int.lt_of_mul_lt_mul_right h (by omega)
theorem Tp.top {T v vt vs u2 u1 u0 w:Int} (h:Tp T v vt vs u2 u1 u0 w):u2≤vt:=by
  have h1:=h.tlo;have h2:=h.tv;have h3:=h.vhi;have hw:=h.w1
  have h4:=h.a0;have h5:=h.a1;have h6:=h.vs1
  have h7:((u2*1000000000+u1)*1000000000+u0)*w<((vt*1000000000+vs+1)*1000000000)*w:=by
    have:v*1000000000<(vt*1000000000+vs+1)*w*1000000000:=by omega
    have e:(vt*1000000000+vs+1)*w*1000000000=((vt*1000000000+vs+1)*1000000000)*w:=by rw [Int.mul_assoc,Int.mul_assoc,Int.mul_comm w]
    omega
  have h8:=lt_of_mul hw h7
  omega
theorem Tp.start {T v vt vs u2 u1 u0 w:Int} (h:Tp T v vt vs u2 u1 u0 w):Gs T v vt (u2*1000000000+u1) ((u2*1000000000+u1) / vt) ((u2*1000000000+u1)%vt):=by
  have hv:=h.vt1;have h1:=h.a1;have h2:=h.a2;have hw:=h.w1
  have e:=Int.mul_ediv_add_emod (u2*1000000000+u1) vt
  have hr:=Int.emod_lt_of_pos (u2*1000000000+u1) (show 0<vt by omega)
  have hr0:=Int.emod_nonneg (u2*1000000000+u1) (show vt≠0 by omega)
  have hq0:0≤(u2*1000000000+u1) / vt:=Int.ediv_nonneg (by omega) (by omega)
  generalize (u2*1000000000+u1) / vt=g at*
  generalize (u2*1000000000+u1)%vt=r at*
  refine ⟨by rw [Int.mul_comm];exact e,hr0,hq0,?_⟩
  have ht:=h.thi;have hl:=h.vlo;have h0:=h.a0;have hs:=h.vs0
  have k1:(u2*1000000000+u1)*1000000000+u0+1≤(g+1)*(vt*1000000000+vs):=by
    have k2:(g+1)*(vt*1000000000+vs)=1000000000*(vt*g)+1000000000*vt+(g+1)*vs:=by grind
    have k3:0≤(g+1)*vs:=Int.mul_nonneg (by omega) hs
    omega
  have k4:=mul_le_of (show 0≤w by omega) k1
  have k5:(g+1)*(vt*1000000000+vs)*w≤(g+1)*v:=by rw [Int.mul_assoc];exact Int.mul_le_mul_of_nonneg_left hl (by omega)
  omega
theorem Gs.le {T v vt vs u2 u1 u0 w g r:Int} (h:Tp T v vt vs u2 u1 u0 w) (k:Gs T v vt (u2*1000000000+u1) g r):g≤2000000000∧r≤1000000000000000000:=by
  have h1:=h.top;have h2:=k.eq;have h3:=h.a1;have h4:=h.vt1;have h5:=k.r0;have h6:=k.g0;have h7:=h.vt2
  have h8:0≤g*vt:=Int.mul_nonneg h6 (by omega)
  refine ⟨?_,by omega⟩
  refine Decidable.byContradiction fun hc=> ?_
  have h9:2000000001*vt≤g*vt:=Int.mul_le_mul_of_nonneg_right (by omega) (by omega)
  omega
theorem Gs.step {T v vt vs u2 u1 u0 w g r:Int} (h:Tp T v vt vs u2 u1 u0 w) (k:Gs T v vt (u2*1000000000+u1) g r) (hc:1000000000≤g∨r*1000000000+u0<g*vs):1≤g∧Gs T v vt (u2*1000000000+u1) (g - 1) (r+vt):=by
  have hr:=k.r0;have hg:=k.g0;have he:=k.eq;have hv:=h.vt1;have h0:=h.a0;have hw:=h.w1
  have hg1:1≤g:=by
    rcases hc with hc|hc
    · omega
    · refine Decidable.byContradiction fun hn => ?_
      have:g=0:=by omega
      subst this;simp at hc;omega
  have hvp:0≤v:=by
    have h1:=h.vlo;have h2:=h.vs0
    have:0≤(vt*1000000000+vs)*w:=Int.mul_nonneg (by omega) (by omega)
    omega
  refine ⟨hg1,⟨by rw [Int.sub_mul];omega,by omega,by omega,?_⟩⟩
  rw [show g - 1+1=g by omega]
  rcases hc with hc|hc
  · have h1 := h.tv
    have:1000000000*v≤g*v:=mul_le_of hvp hc
    omega
  · have h1 := h.thi; have h2 := h.vlo
    have k1:(u2*1000000000+u1)*1000000000+u0+1≤g*(vt*1000000000+vs):=by
      have:g*(vt*1000000000+vs)=1000000000*(g*vt)+g*vs:=by grind
      omega
    have k4:=mul_le_of (show 0≤w by omega) k1
    have k5:g*(vt*1000000000+vs)*w≤g*v:=by rw [Int.mul_assoc];exact Int.mul_le_mul_of_nonneg_left h2 (by omega)
    omega
theorem Gs.fin {T v vt vs u2 u1 u0 w g r:Int} (h:Tp T v vt vs u2 u1 u0 w) (k:Gs T v vt (u2*1000000000+u1) g r) (h1:g<1000000000) (h2:g*vs≤r*1000000000+u0):g*v<T+v:=by
  have he:=k.eq;have hg:=k.g0;have hw:=h.w1;have hv:=h.vt1;have hs:=h.vs0
  have k1:g*(vt*1000000000+vs)≤(u2*1000000000+u1)*1000000000+u0:=by
    have:g*(vt*1000000000+vs)=1000000000*(g*vt)+g*vs:=by grind
    omega
  have k2:=mul_le_of (show 0≤w by omega) k1
  have k3:=h.tlo
  have hl:=h.vlo;have hh:=h.vhi
  have k4:g*(v - (vt*1000000000+vs)*w)≤g*w:=Int.mul_le_mul_of_nonneg_left (by rw [Int.add_mul (vt*1000000000+vs),Int.one_mul] at hh;omega) hg
  have k5:g*w≤999999999*w:=mul_le_of (by omega) (by omega)
  have k6:1000000000*w≤(vt*1000000000+vs)*w:=mul_le_of (by omega) (by omega)
  rw [Int.mul_sub,←Int.mul_assoc] at k4
  omega
theorem Gs.broke {T v vt vs u2 u1 u0 w g r:Int} (h:Tp T v vt vs u2 u1 u0 w) (k:Gs T v vt (u2*1000000000+u1) g r) (hb:1000000000≤r):g<1000000000∧g*vs≤r*1000000000+u0:=by
  have h1:=h.top;have he:=k.eq;have h3:=h.a1;have h4:=h.vt1;have hg:=k.g0;have h0:=h.a0
  have hlt:g<1000000000:=by
    refine Decidable.byContradiction fun hc=> ?_
    have:1000000000*vt≤g*vt:=mul_le_of (by omega) (by omega)
    omega
  refine ⟨hlt,?_⟩
  have hs:=h.vs1;have hs0:=h.vs0
  have:g*vs≤999999999*vs:=mul_le_of hs0 (by omega)
  omega
theorem LgI.T {M n:Nat} {a v:Int} {j:Nat} {u qs:List Int} (h:LgI M n a v (j+1) u qs):valL u=valL (u.take j)+pw j*valL (u.drop j)∧0≤valL (u.take j)∧valL (u.take j)<pw j∧0≤valL (u.drop j)∧valL (u.drop j)<v*1000000000:=by
  have h1:=valL_cut u j (by rw [h.ul];have:=h.jle;omega)
  have h2:=valL_take_lt h.uo j
  have h3:=valL_nonneg (okL_drop h.uo j)
  refine ⟨h1,h2.1,h2.2,h3,?_⟩
  have h4:=h.lt
  rw [pw_succ] at h4
  have h5:pw j*valL (u.drop j)<pw j*(v*1000000000):=by
    have:v*(1000000000*pw j)=pw j*(v*1000000000):=by ac_rfl
    omega
  exact Int.lt_of_mul_lt_mul_left h5 (Int.le_of_lt (pw_pos j))
theorem drop_high {l:List Int} (h:okL l) {k:Nat} (hv:valL l<pw k):valL (l.drop k)=0:=by
  rcases Nat.lt_or_ge l.length k with hk|hk
  · rw [List.drop_eq_nil_of_le (by omega)];rfl
  · have h1 := valL_cut l k hk
    have h2:=valL_nonneg (okL_take h k)
    have h3:=valL_nonneg (okL_drop h k)
    refine Decidable.byContradiction fun hc=> ?_
    have:pw k*1≤pw k*valL (l.drop k):=Int.mul_le_mul_of_nonneg_left (by omega) (Int.le_of_lt (pw_pos k))
    omega
theorem getD_drop' (l:List Int) (i k:Nat):(l.drop i).getD k 0=l.getD (i+k) 0:=by simp [List.getD_eq_getElem?_getD]
theorem digs_top {b:Nat} {n:Nat} (h:(digs b).length=n+1):1≤(digs b).getD n 0:=by
  have h1:=canon_digs (b:Int)
  unfold canon at h1
  rw [Int.natAbs_natCast,if_neg (by omega),h,Nat.add_sub_cancel] at h1
  have h2:=okL_getD (digs_ok b) n
  omega
theorem LgI.high {M n:Nat} {a:Int} {b j:Nat} {u qs:List Int} (h:LgI M n a (b:Int) (j+1) u qs) (hn:(digs b).length=n):valL (u.drop (j+(n+1)))=0:=by
  have ht:=h.T
  have hb:=digs_lt b
  rw [hn] at hb
  have:=drop_high (okL_drop h.uo j) (k:=n+1) (by rw [pw_succ];omega)
  rw [List.drop_drop] at this;exact this
theorem LgI.tp {M m:Nat} {a:Int} {b j:Nat} {u qs:List Int} (h:LgI M (m+2) a (b:Int) (j+1) u qs) (hn:(digs b).length=m+2):Tp (valL (u.drop j)) b ((digs b).getD (m+1) 0) ((digs b).getD m 0) (u.getD (j+(m+2)) 0) (u.getD (j+(m+1)) 0) (u.getD (j+m) 0) (pw m):=by
  have ht:=h.T
  have hh:=h.high hn
  have hvb:=valL_digs b
  have e1:valL (digs b)=valL ((digs b).take m)+pw m*valL ((digs b).drop m):=valL_cut _ _ (by omega)
  have e2:valL ((digs b).drop m)=(digs b).getD m 0+1000000000*(digs b).getD (m+1) 0:=by
    rw [valL_drop,valL_drop,List.drop_eq_nil_of_le (show (digs b).length≤m+1+1 by omega)];simp [valL]
  have e3:=valL_take_lt (digs_ok b) m
  have f1:valL (u.drop j)=valL ((u.drop j).take m)+pw m*valL ((u.drop j).drop m):=valL_cut _ _ (by rw [List.length_drop,h.ul];have:=h.jle;omega)
  have f2:valL ((u.drop j).drop m)=u.getD (j+m) 0+1000000000*(u.getD (j+(m+1)) 0+1000000000*u.getD (j+(m+2)) 0):=by
    rw [List.drop_drop,valL_drop,valL_drop,valL_drop,show j+m+1+1+1=j+(m+2+1) by omega,hh,show j+m+1=j+(m+1) by omega,show j+(m+1)+1=j+(m+2) by omega];omega
  have f3:=valL_take_lt (okL_drop h.uo j) m
  have hp:=pw_pos m
  have ob:=digs_ok b
  have g1:=okL_getD ob (m+1);have g0:=okL_getD ob m
  have c0:=okL_getD h.uo (j+m);have c1:=okL_getD h.uo (j+(m+1));have c2:=okL_getD h.uo (j+(m+2))
  refine ⟨by omega,digs_top (n:=m+1) hn,g1.2,g0.1,g0.2,c0,c1,c2,?_,?_,?_,?_,ht.2.2.2.2⟩
  · rw [← hvb, e1, e2]
    have:(digs b).getD (m+1) 0*1000000000+(digs b).getD m 0=(digs b).getD m 0+1000000000*(digs b).getD (m+1) 0:=by omega
    rw [this,Int.mul_comm];omega
  · rw [← hvb, e1, e2]
    have:(digs b).getD (m+1) 0*1000000000+(digs b).getD m 0+1=((digs b).getD m 0+1000000000*(digs b).getD (m+1) 0)+1:=by omega
    rw [this,Int.add_mul,Int.mul_comm _ (pw m)];omega
  · rw [f1, f2]
    have:(u.getD (j+(m+2)) 0*1000000000+u.getD (j+(m+1)) 0)*1000000000+u.getD (j+m) 0=u.getD (j+m) 0+1000000000*(u.getD (j+(m+1)) 0+1000000000*u.getD (j+(m+2)) 0):=by omega
    rw [this,Int.mul_comm];omega
  · rw [f1, f2]
    have:(u.getD (j+(m+2)) 0*1000000000+u.getD (j+(m+1)) 0)*1000000000+u.getD (j+m) 0+1=(u.getD (j+m) 0+1000000000*(u.getD (j+(m+1)) 0+1000000000*u.getD (j+(m+2)) 0))+1:=by omega
    rw [this,Int.add_mul,Int.mul_comm _ (pw m)];omega
structure MsI (u:List Int) (j:Nat) (g:Int) (v:List Int) (i:Nat) (u2:List Int) (bo ca:Int):Prop where
  len:u2.length=u.length
  ok:okL u2
  b0:0≤bo
  b1:bo≤1
  c0:0≤ca
  c1:ca<1000000000
  far:∀k,j+i≤k→u2.getD k 0=u.getD k 0
  eq:valL u2=valL u - pw j*(g*valL (v.take i))+pw (j+i)*(bo+ca)
theorem MsI.start {u:List Int} (h:okL u) (j:Nat) (g:Int) (v:List Int):MsI u j g v 0 u 0 0:=⟨rfl,h,by decide,by decide,by decide,by decide,fun _ _=>rfl,by simp [valL]⟩
theorem ms_carry {g x ca:Int} (hg:0≤g∧g<1000000000) (hx:0≤x∧x<1000000000) (hc:0≤ca∧ca<1000000000):0≤g*x+ca∧g*x+ca≤999999999000000000∧0≤(g*x+ca) / 1000000000∧(g*x+ca) / 1000000000<1000000000:=by
  have h1:0≤g*x:=Int.mul_nonneg hg.1 hx.1
  have h2:g*x≤999999999*x:=mul_le_of hx.1 (by omega)
  omega
theorem MsI.step {u:List Int} {j:Nat} {g:Int} {v:List Int} {i:Nat} {u2:List Int} {bo ca y bo2:Int} (h:MsI u j g v i u2 bo ca) (hg:0≤g∧g<1000000000) (hv:okL v) (hj:j+i<u.length)
    (hy:y=u2.getD (j+i) 0 - bo - (g*v.getD i 0+ca)%1000000000+1000000000*bo2) (hy0:0≤y∧y<1000000000) (hb:0≤bo2∧bo2≤1):MsI u j g v (i+1) (u2.set (j+i) y) bo2 ((g*v.getD i 0+ca) / 1000000000):=by
  have hc:=ms_carry hg (okL_getD hv i) ⟨h.c0,h.c1⟩
  refine ⟨by rw [List.length_set];exact h.len,okL_set h.ok hy0.1 hy0.2,hb.1,hb.2,hc.2.2.1,hc.2.2.2,fun k hk=>by rw [getD_set_ne (by omega)];exact h.far k (by omega),?_⟩
  rw [valL_set y (by rw [h.len];exact hj),h.eq,valL_take_succ,hy]
  have e:=Int.mul_ediv_add_emod (g*v.getD i 0+ca) 1000000000
  rw [← Nat.add_assoc,pw_succ,pw_add]
  generalize (g*v.getD i 0+ca) / 1000000000=q at*
  generalize (g*v.getD i 0+ca)%1000000000=r at*
  have e2:r=g*v.getD i 0+ca - 1000000000*q:=by omega
  subst e2
  grind
structure AbI (u:List Int) (j:Nat) (v:List Int) (i:Nat) (u2:List Int) (ca:Int):Prop where
  len:u2.length=u.length
  ok:okL u2
  c0:0≤ca
  c1:ca≤1
  far:∀k,j+i≤k→u2.getD k 0=u.getD k 0
  eq:valL u2=valL u+pw j*valL (v.take i) - pw (j+i)*ca
theorem AbI.start {u:List Int} (h:okL u) (j:Nat) (v:List Int):AbI u j v 0 u 0:=⟨rfl,h,by decide,by decide,fun _ _=>rfl,by simp [valL]⟩
theorem AbI.step {u:List Int} {j:Nat} {v:List Int} {i:Nat} {u2:List Int} {ca y c2:Int} (h:AbI u j v i u2 ca) (hj:j+i<u.length)
    (hy:y=u2.getD (j+i) 0+v.getD i 0+ca - 1000000000*c2) (hy0:0≤y∧y<1000000000) (hb:0≤c2∧c2≤1):AbI u j v (i+1) (u2.set (j+i) y) c2:=by
  refine ⟨by rw [List.length_set];exact h.len,okL_set h.ok hy0.1 hy0.2,hb.1,hb.2,fun k hk=>by rw [getD_set_ne (by omega)];exact h.far k (by omega),?_⟩
  rw [valL_set y (by rw [h.len];exact hj),h.eq,valL_take_succ,hy]
  rw [← Nat.add_assoc,pw_succ,pw_add]
  grind
theorem LgI.next {M n:Nat} {a v:Int} {j:Nat} {u qs:List Int} (h:LgI M n a v (j+1) u qs) {u':List Int} {g:Int} (hl:u'.length=M) (ho:okL u') (hg:0≤g∧g<1000000000) (he:valL u'=valL u - pw j*(g*v)) (hlt:valL u'<v*pw j):LgI M n a v j u' (g :: qs):=by
  have hj:=h.jle
  refine ⟨hl,ho,by rw [List.length_cons,h.ql];omega,okL_cons.2 ⟨hg,h.qo⟩,by omega,?_,hlt⟩
  rw [he,←h.eq,pw_succ]
  simp only [valL]
  grind
theorem LgI.bound {M n:Nat} {a v:Int} {j:Nat} {u qs:List Int} (h:LgI M n a v (j+1) u qs) {g:Int} (hup:valL (u.drop j)<(g+1)*v):valL u<pw j*((g+1)*v):=by
  obtain ⟨h1,h2,h3,h4,_⟩:=h.T
  have:pw j*(valL (u.drop j)+1)≤pw j*((g+1)*v):=Int.mul_le_mul_of_nonneg_left (by omega) (Int.le_of_lt (pw_pos j))
  rw [Int.mul_add,Int.mul_one] at this;omega
theorem LgI.low {M n:Nat} {a v:Int} {j:Nat} {u qs:List Int} (h:LgI M n a v (j+1) u qs) {g:Int} (hdn:g*v<valL (u.drop j)+v):pw j*(g*v)<valL u+pw j*v:=by
  obtain ⟨h1,h2,h3,h4,_⟩:=h.T
  have:pw j*(g*v+1)≤pw j*(valL (u.drop j)+v):=Int.mul_le_mul_of_nonneg_left (by omega) (Int.le_of_lt (pw_pos j))
  rw [Int.mul_add,Int.mul_add,Int.mul_one] at this
  have:=pw_pos j;omega
theorem at_split {u:List Int} {k:Nat} (hk:k<u.length) (h0:valL (u.drop (k+1))=0):valL u=valL (u.take k)+pw k*u.getD k 0:=by
  rw [valL_cut u k (by omega),valL_drop u k,h0];simp
theorem drop_far {u u2:List Int} {k:Nat} (hl:u2.length=u.length) (h:∀i,k≤i→u2.getD i 0=u.getD i 0):u2.drop k=u.drop k:=
  ext_getD (by simp [hl]) (fun i hi=>by rw [getD_drop',getD_drop'];exact h _ (by omega))
theorem LgI.pos {M n:Nat} {a:Int} {b j:Nat} {u qs:List Int} (h:LgI M n a (b:Int) (j+1) u qs) {g:Int} (hg:0≤g∧g<1000000000) (hup:valL (u.drop j)<(g+1)*(b:Int))
    {u2:List Int} {bo ca:Int} (hm:MsI u j g (digs b) n u2 bo ca) (hn:(digs b).length=n) (hd:0≤u2.getD (j+n) 0 - bo - ca):LgI M n a (b:Int) j (u2.set (j+n) (u2.getD (j+n) 0 - bo - ca)) (g :: qs):=by
  have hj:=h.jle
  have hx:=okL_getD hm.ok (j+n)
  have h1:=hm.b0;have h2:=hm.c0
  have he:valL (u2.set (j+n) (u2.getD (j+n) 0 - bo - ca))=valL u - pw j*(g*(b:Int)):=by
    rw [valL_set _ (by rw [hm.len,h.ul];omega),hm.eq,List.take_of_length_le (by omega),valL_digs]
    grind
  refine h.next (by rw [List.length_set,hm.len,h.ul]) (okL_set hm.ok hd (by omega)) hg he ?_
  have:=h.bound hup
  rw [he]
  have e:pw j*((g+1)*(b:Int))=pw j*(g*(b:Int))+(b:Int)*pw j:=by grind
  omega
theorem LgI.neg1 {M n:Nat} {a:Int} {b j:Nat} {u qs:List Int} (h:LgI M n a (b:Int) (j+1) u qs) {g:Int}
    {u2:List Int} {bo ca:Int} (hm:MsI u j g (digs b) n u2 bo ca) (hn:(digs b).length=n) (hd:u2.getD (j+n) 0 - bo - ca<0):g≠0:=fun hg=>by
  subst hg
  have hj:=h.jle
  have hlen2:j+n<u2.length:=by rw [hm.len,h.ul];omega
  have hhi2:valL (u2.drop (j+n+1))=0:=by rw [drop_far hm.len (fun i hi=>hm.far i (by omega))];exact h.high hn
  have s2:=at_split hlen2 hhi2
  have t2:=valL_take_lt hm.ok (j+n)
  have hp:=pw_pos (j+n)
  have e:=hm.eq
  have:pw (j+n)*(u2.getD (j+n) 0 - bo - ca)≤pw (j+n)*(-1):=Int.mul_le_mul_of_nonneg_left (by omega) (Int.le_of_lt hp)
  rw [Int.mul_sub,Int.mul_sub] at this
  rw [Int.mul_add,Int.zero_mul,Int.mul_zero] at e
  have:=valL_nonneg h.uo
  omega
theorem LgI.neg {M n:Nat} {a:Int} {b j:Nat} {u qs:List Int} (h:LgI M n a (b:Int) (j+1) u qs) {g:Int} (hg:0≤g∧g<1000000000) (hdn:g*(b:Int)<valL (u.drop j)+(b:Int)) (hup:valL (u.drop j)<(g+1)*(b:Int))
    {u2:List Int} {bo ca:Int} (hm:MsI u j g (digs b) n u2 bo ca) (hn:(digs b).length=n) (hd:u2.getD (j+n) 0 - bo - ca<0)
    {u4:List Int} {c:Int} (hb:AbI (u2.set (j+n) (u2.getD (j+n) 0 - bo - ca+1000000000)) j (digs b) n u4 c):1≤g∧LgI M n a (b:Int) j (u4.set (j+n) ((u4.getD (j+n) 0+c)%1000000000)) ((g - 1) :: qs):=by
  have hj:=h.jle
  have hx:=okL_getD hm.ok (j+n)
  have hy:=okL_getD hb.ok (j+n)
  have h1:=hm.b0;have h2:=hm.c0;have h3:=hm.b1;have h4:=hm.c1;have c0:=hb.c0;have c1:=hb.c1
  have hlen2:j+n<u2.length:=by rw [hm.len,h.ul];omega
  have hlen4:j+n<u4.length:=by rw [hb.len,List.length_set];exact hlen2
  have hhi:=h.high hn
  have hhi2:valL (u2.drop (j+n+1))=0:=by rw [drop_far hm.len (fun i hi=>hm.far i (by omega))];exact hhi
  have s2:=at_split hlen2 hhi2
  have t2:=valL_take_lt hm.ok (j+n)
  have hp:=pw_pos (j+n)
  -- what the subtraction left is below 0
  have hS:valL u - pw j*(g*(b:Int))<0:=by
    have e:=hm.eq
    rw [List.take_of_length_le (by omega),valL_digs] at e
    have:pw (j+n)*(u2.getD (j+n) 0 - bo - ca)≤pw (j+n)*(-1):=Int.mul_le_mul_of_nonneg_left (by omega) (Int.le_of_lt hp)
    rw [Int.mul_sub,Int.mul_sub] at this
    rw [Int.mul_add] at e
    omega
  have hlow:=h.low hdn
  have hg1:1≤g:=by
    refine Decidable.byContradiction fun hc=> ?_
    have:g=0:=by omega
    subst this
    have:=valL_nonneg h.uo
    simp at hS;omega
  refine ⟨hg1,?_⟩
  have e4:=hb.eq
  rw [List.take_of_length_le (by omega),valL_digs,valL_set _ hlen2] at e4
  have e2:=hm.eq
  rw [List.take_of_length_le (by omega),valL_digs] at e2
  have hhi4:valL (u4.drop (j+n+1))=0:=by
    rw [drop_far (u:=u2.set (j+n) (u2.getD (j+n) 0 - bo - ca+1000000000)) hb.len (fun i hi=>hb.far i (by omega)),drop_far (u:=u2) (by simp) (fun i hi=>getD_set_ne (by omega) _)];exact hhi2
  have s4:=at_split hlen4 hhi4
  have t4:=valL_take_lt hb.ok (j+n)
  have hk:=Int.mul_ediv_add_emod (u4.getD (j+n) 0+c) 1000000000
  have hk0:=Int.emod_nonneg (u4.getD (j+n) 0+c) (show (1000000000:Int)≠0 by decide)
  have hk1:=Int.emod_lt_of_pos (u4.getD (j+n) 0+c) (show (0:Int)<1000000000 by decide)
  have hset:valL (u4.set (j+n) ((u4.getD (j+n) 0+c)%1000000000))=valL u4+pw (j+n)*((u4.getD (j+n) 0+c)%1000000000 - u4.getD (j+n) 0):=valL_set _ hlen4
  have hbig:(b:Int)<pw n:=by rw [← hn];exact digs_lt b
  have hbw:pw j*(b:Int)<pw (j+n):=by rw [pw_add];exact Int.mul_lt_mul_of_pos_left hbig (pw_pos j)
  -- the last group overflows
  have hco:(u4.getD (j+n) 0+c) / 1000000000=1:=by
    have hq:(u4.getD (j+n) 0+c) / 1000000000=0∨(u4.getD (j+n) 0+c) / 1000000000=1:=by omega
    rcases hq with hq|hq
    · exfalso
      have hy2:u4.getD (j+n) 0+c≤999999999:=by omega
      have m1:pw (j+n)*(u4.getD (j+n) 0+c)≤pw (j+n)*999999999:=Int.mul_le_mul_of_nonneg_left hy2 (Int.le_of_lt hp)
      rw [Int.mul_add] at m1
      have m2:pw (j+n)*(u2.getD (j+n) 0 - bo - ca+1000000000 - u2.getD (j+n) 0)=pw (j+n)*1000000000 - pw (j+n)*(bo+ca):=by grind
      rw [m2] at e4
      omega
    · exact hq
  have he:valL (u4.set (j+n) ((u4.getD (j+n) 0+c)%1000000000))=valL u - pw j*((g - 1)*(b:Int)):=by
    rw [hset,e4,e2]
    have hr:(u4.getD (j+n) 0+c)%1000000000=u4.getD (j+n) 0+c - 1000000000:=by omega
    rw [hr]
    grind
  refine h.next (by rw [List.length_set,hb.len,List.length_set,hm.len,h.ul]) (okL_set hb.ok hk0 hk1) ⟨by omega,by omega⟩ he ?_
  rw [he]
  have e:pw j*((g - 1)*(b:Int))=pw j*(g*(b:Int)) - (b:Int)*pw j:=by grind
  omega
theorem LgI.start {M n a b:Nat} {u:List Int} (ho:okL u) (hl:u.length=M) (hv:valL u=(a:Int)) (hn:(digs b).length=n) (hM:n+1≤M) (hu:valL u<pw (M - 1)) (h1:1≤n):LgI M n (a:Int) (b:Int) (M - n) u []:=by
  refine ⟨hl,ho,by simp,okL_nil,by omega,by rw [hv];simp [valL],?_⟩
  have h2:pw (n - 1)≤(b:Int):=digs_low (by omega)
  have h3:pw (M - 1)=pw (n - 1)*pw (M - n):=by rw [← pw_add];congr 1;omega
  have h4:pw (n - 1)*pw (M - n)≤(b:Int)*pw (M - n):=mul_le_of (Int.le_of_lt (pw_pos _)) h2
  omega
theorem LgI.fin {M n a b:Nat} {u qs:List Int} (h:LgI M n (a:Int) (b:Int) 0 u qs) (hn:(digs b).length=n):trimL qs=digs (a / b)∧trimL (u.take n)=digs (a%b):=by
  have e:=h.eq;have hlt:=h.lt
  rw [pw_zero,Int.mul_one] at e hlt
  have h0:=valL_nonneg h.uo;have hq0:=valL_nonneg h.qo
  have hu:valL u=((a%b:Nat):Int):=by
    rw [Int.natCast_emod,←e,Int.add_mul_emod_self_left,Int.emod_eq_of_lt h0 hlt]
  have hq:valL qs=((a / b:Nat):Int):=by
    rw [Int.natCast_ediv,←e,Int.add_mul_ediv_left _ _ (by omega),Int.ediv_eq_zero_of_lt h0 hlt];omega
  refine ⟨trimL_of h.qo hq,trimL_of (okL_take h.uo n) ?_⟩
  have h1:=h.jle
  have hc:=valL_cut u n (by rw [h.ul];omega)
  have hz:valL (u.drop n)=0:=drop_high h.uo (by have:=digs_lt b;rw [hn] at this;omega)
  rw [hz,Int.mul_zero,Int.add_zero] at hc
  rw [← hc,hu]
end Go.Proofs.YtjeahiahjgifgaaGreatDoor.Big
namespace Go.Proofs.YtjeahiahjgifgaaGreatDoor.Big
def fq (x y:Int):Int:=if 0<y then x / y else (-x) / (-y)
def fr (x y:Int):Int:=x - y*fq x y
theorem ediv_of {x y q r:Int} (h:x=y*q+r) (h0:0≤r) (h1:r<y):x / y=q:=by
  rw [h,Int.add_comm,Int.add_mul_ediv_left _ _ (by omega),Int.ediv_eq_zero_of_lt h0 h1];omega
theorem fq_of {x y q r:Int} (h:x=y*q+r) (hr:(0<y∧0≤r∧r<y)∨(y<0∧y<r∧r≤0)):fq x y=q∧fr x y=r:=by
  have e:fq x y=q:=by
    unfold fq
    rcases hr with ⟨h1,h2,h3⟩|⟨h1,h2,h3⟩
    · rw [if_pos h1];exact ediv_of h h2 h3
    · rw [if_neg (by omega)]
      exact ediv_of (r:= -r) (by rw [h,Int.neg_mul];omega) (by omega) (by omega)
  refine ⟨e,?_⟩
  unfold fr;rw [e];omega
theorem abs_split (x y:Int):(x.natAbs:Int)=(y.natAbs:Int)*((x.natAbs / y.natAbs:Nat):Int)+((x.natAbs%y.natAbs:Nat):Int):=by
  rw [← Int.natCast_mul,←Int.natCast_add,Nat.div_add_mod]
theorem sg_t (n:Int):sg true n= -n:=rfl
theorem sg_f (n:Int):sg false n=n:=rfl
theorem fq_same {x y:Int} (hy:y≠0) (h:decide (x<0)=decide (y<0)):sg false ((x.natAbs / y.natAbs:Nat):Int)=fq x y∧sg (decide (y<0)) ((x.natAbs%y.natAbs:Nat):Int)=fr x y:=by
  have e:=abs_split x y
  have hlt:=Nat.mod_lt x.natAbs (show 0<y.natAbs by omega)
  generalize x.natAbs / y.natAbs=q at*
  generalize x.natAbs%y.natAbs=r at*
  rw [sg_f]
  by_cases hy0:y<0
  · have hx : x < 0 := by simpa [hy0] using h
    rw [decide_eq_true hy0,sg_t]
    have:=fq_of (x:=x) (y:=y) (q:=(q:Int)) (r:= -(r:Int)) (by
      have h1:(y.natAbs:Int)= -y:=by omega
      rw [h1,Int.neg_mul] at e;omega) (.inr (by omega))
    exact ⟨this.1.symm,this.2.symm⟩
  · have hx : ¬ x < 0 := by simpa [hy0] using h
    rw [decide_eq_false hy0,sg_f]
    have:=fq_of (x:=x) (y:=y) (q:=(q:Int)) (r:=(r:Int)) (by
      have h1:(y.natAbs:Int)=y:=by omega
      rw [h1] at e;omega) (.inl (by omega))
    exact ⟨this.1.symm,this.2.symm⟩
theorem fq_even {x y:Int} (hy:y≠0) (h:¬decide (x<0)=decide (y<0)) (hr:x.natAbs%y.natAbs=0):sg true ((x.natAbs / y.natAbs:Nat):Int)=fq x y∧sg (decide (y<0)) ((x.natAbs%y.natAbs:Nat):Int)=fr x y:=by
  have e:=abs_split x y
  rw [hr] at e ⊢
  generalize x.natAbs / y.natAbs=q at*
  rw [sg_t,show sg (decide (y<0)) ((0:Nat):Int)=0 from sg_zero _]
  have hs:x=y*(-(q:Int))+0:=by
    rw [Int.mul_neg]
    by_cases hy0:y<0
    · have hx : ¬ x < 0 := by simpa [hy0] using h
      have h1:(y.natAbs:Int)= -y:=by omega
      rw [h1,Int.neg_mul] at e;omega
    · have hx : x < 0 := by simpa [hy0] using h
      have h1:(y.natAbs:Int)=y:=by omega
      rw [h1] at e;omega
  have:=fq_of hs (by omega)
  exact ⟨this.1.symm,this.2.symm⟩
theorem fq_odd {x y:Int} (hy:y≠0) (h:¬decide (x<0)=decide (y<0)) (hr:x.natAbs%y.natAbs≠0):sg true ((x.natAbs / y.natAbs+1:Nat):Int)=fq x y∧sg (decide (y<0)) ((y.natAbs - x.natAbs%y.natAbs:Nat):Int)=fr x y:=by
  have e:=abs_split x y
  have hlt:=Nat.mod_lt x.natAbs (show 0<y.natAbs by omega)
  generalize x.natAbs / y.natAbs=q at*
  generalize x.natAbs%y.natAbs=r at*
  rw [sg_t]
  by_cases hy0:y<0
  · have hx : ¬ x < 0 := by simpa [hy0] using h
    rw [decide_eq_true hy0,sg_t]
    have:=fq_of (x:=x) (y:=y) (q:= -((q+1:Nat):Int)) (r:= -((y.natAbs - r:Nat):Int)) (by
      have h1:(y.natAbs:Int)= -y:=by omega
      rw [h1,Int.neg_mul] at e
      rw [Int.mul_neg,Int.natCast_add,Int.mul_add];omega) (.inr (by omega))
    exact ⟨this.1.symm,this.2.symm⟩
  · have hx : x < 0 := by simpa [hy0] using h
    rw [decide_eq_false hy0,sg_f]
    have:=fq_of (x:=x) (y:=y) (q:= -((q+1:Nat):Int)) (r:=((y.natAbs - r:Nat):Int)) (by
      have h1:(y.natAbs:Int)=y:=by omega
      rw [h1] at e
      rw [Int.mul_neg,Int.natCast_add,Int.mul_add];omega) (.inl (by omega))
    exact ⟨this.1.symm,this.2.symm⟩
theorem fr_nonneg {x y:Int} (h:0<y):fq x y=x / y∧fr x y=x%y:=by
  have e:fq x y=x / y:=by unfold fq;rw [if_pos h]
  refine ⟨e,?_⟩
  unfold fr;rw [e]
  have:=Int.mul_ediv_add_emod x y;omega
theorem gcd_rest {a b:Nat}:Nat.gcd b (a%b)=Nat.gcd a b:=by rw [Nat.gcd_comm b,←Nat.gcd_rec,Nat.gcd_comm]
theorem ln_mono' {a b:Nat} (h:a≤b):(digs a).length≤(digs b).length:=by
  refine digs_len ?_
  have:=digs_lt b;omega
theorem len_mul_ge {a s:Nat} (h:1≤s):(digs a).length≤(digs (a*s)).length:=ln_mono' (Nat.le_mul_of_pos_right a h)
theorem len_mul_le (a s:Nat):(digs (a*s)).length≤(digs a).length+(digs s).length:=by
  refine digs_len ?_
  rw [Int.natCast_mul,pw_add]
  have h1:(a:Int)*s≤pw (digs a).length*s:=Int.mul_le_mul_of_nonneg_right (Int.le_of_lt (digs_lt a)) (by omega)
  have h2:pw (digs a).length*(s:Int)<pw (digs a).length*pw (digs s).length:=Int.mul_lt_mul_of_pos_left (digs_lt s) (pw_pos _)
  omega
theorem scale_len {b n:Nat} (hn:(digs b).length=n+1) {s:Nat} (hs:s=(1000000000 / ((digs b).getD n 0+1)).toNat):1≤s∧s≤500000000∧(digs (b*s)).length=n+1:=by
  have ht:=digs_top hn
  have ho:=okL_getD (digs_ok b) n
  have h1:1≤1000000000 / ((digs b).getD n 0+1):=by
    refine Int.le_ediv_of_mul_le (by omega) (by omega)
  have h2:1000000000 / ((digs b).getD n 0+1)≤500000000:=by
    refine Int.ediv_le_of_le_mul (by omega) (by omega)
  have hs1:(s:Int)=1000000000 / ((digs b).getD n 0+1):=by rw [hs];exact Int.toNat_of_nonneg (by omega)
  refine ⟨by omega,by omega,?_⟩
  have hge:=len_mul_ge (a:=b) (s:=s) (by omega)
  have hle:(digs (b*s)).length≤n+1:=by
    refine digs_len ?_
    have hv:=valL_digs b
    have hc:=valL_cut (digs b) n (by omega)
    have hd:valL ((digs b).drop n)=(digs b).getD n 0:=by rw [valL_drop,List.drop_eq_nil_of_le (by omega)];simp [valL]
    have hl:=valL_take_lt (digs_ok b) n
    rw [hd] at hc
    have hp:=pw_pos n
    have hb:(b:Int)<((digs b).getD n 0+1)*pw n:=by rw [Int.add_mul,Int.mul_comm _ (pw n)];omega
    have hm:((digs b).getD n 0+1)*(s:Int)≤1000000000:=by rw [hs1];exact Int.mul_ediv_self_le (by omega)
    rw [Int.natCast_mul,pw_succ]
    have h3:(b:Int)*s<((digs b).getD n 0+1)*pw n*s:=Int.mul_lt_mul_of_pos_right hb (by omega)
    have h4:((digs b).getD n 0+1)*pw n*s=((digs b).getD n 0+1)*s*pw n:=by ac_rfl
    have h5:((digs b).getD n 0+1)*(s:Int)*pw n≤1000000000*pw n:=mul_le_of (Int.le_of_lt hp) hm
    omega
  omega
theorem scale_div {a b s:Nat} (hs:1≤s):a*s / (b*s)=a / b∧a*s%(b*s) / s=a%b:=by
  refine ⟨Nat.mul_div_mul_right a b (by omega),?_⟩
  rw [Nat.mul_mod_mul_right,Nat.mul_div_cancel _ (by omega)]
theorem digs_one {s:Nat} (h1:1≤s) (h2:s<1000000000):digs s=[(s:Int)]:=by
  rw [digs_pos (by omega),Nat.mod_eq_of_lt h2,Nat.div_eq_of_lt h2,digs_zero]
theorem mul_lim3 {g x:Int} (h0:0≤g) (h1:g≤2000000000) (h2:0≤x) (h3:x<1000000000):0≤g*x∧g*x≤2000000000000000000:=by
  have a:=Int.mul_nonneg h0 h2
  have b:g*x≤2000000000*x:=mul_le_of h2 h1
  omega
theorem one_digit {b:Nat} (h:(digs b).length=1):(digs b).getD 0 0=(b:Int):=by
  have h1:=valL_cut (digs b) 0 (Nat.zero_le _)
  have h2:=valL_drop (digs b) 0
  rw [List.drop_eq_nil_of_le (show (digs b).length≤0+1 by omega)] at h2
  rw [valL_digs,h2] at h1
  simp [valL,pw_zero] at h1;exact h1.symm
theorem zQe {b:Nat} (h:0<b):1≤(digs b).length:=by
  refine Nat.pos_of_ne_zero fun e=> ?_
  have:=len_digs_nil.1 e;omega
theorem two_lt {a:Nat} (h:(digs a).length≤2):a<1000000000000000000:=by
  have h1:=digs_lt a
  have h2:=pw_mono h
  have:pw 2=1000000000000000000:=by decide
  omega
theorem word_step {A:List Int} (k:Nat):valL (A.drop (k+1))*1000000000+A.getD k 0=valL (A.drop k):=by rw [valL_drop A k];omega
theorem word_keep {a k:Nat} {z:Int} (h:k+1≤(digs a).length) (hz:z=valL ((digs a).drop (k+1))):(z*1000000000+(digs a).getD k 0)*pw k≤(a:Int):=by
  have h1:=valL_cut (digs a) k (by omega)
  rw [valL_digs,valL_drop,←hz] at h1
  have h2:=valL_take_lt (digs_ok a) k
  have:(z*1000000000+(digs a).getD k 0)*pw k=pw k*((digs a).getD k 0+1000000000*z):=by grind
  omega
theorem word_lim {a k:Nat} {z:Int} (hl:(digs a).length≤2) (h:k+1≤(digs a).length) (h0:0≤z) (hp:z*pw (k+1)≤(a:Int)):z<1000000000:=by
  have h1:=two_lt hl
  have h2:=pw_mono (show 1≤k+1 by omega)
  have h3:pw 1=1000000000:=by decide
  refine Decidable.byContradiction fun hc=> ?_
  have h4:1000000000*pw (k+1)≤z*pw (k+1):=mul_le_of (Int.le_of_lt (pw_pos _)) (by omega)
  omega
theorem cmp_b (x y:Int): -1≤cmp x y∧cmp x y≤1:=by unfold cmp;split <;> (try split) <;> decide
theorem cmp_of {x y u v:Int} (h1:x<y↔u<v) (h2:y<x↔v<u):cmp x y=cmp u v:=by
  unfold cmp;simp only [h1,h2]
theorem cmp_flip (x y:Int): - cmp x y=cmp y x:=by
  unfold cmp
  by_cases h1:x<y
  · rw [if_pos h1,if_neg (by omega),if_pos h1];rfl
  · by_cases h2 : y < x
    · rw [if_neg h1,if_pos h2,if_pos h2]
    · rw [if_neg h1,if_neg h2,if_neg h2,if_neg h1];rfl
theorem sign_le {x:Int}:(x<0∧x.sign= -1)∨(x=0∧x.sign=0)∨(0<x∧x.sign=1):=by
  rcases Int.lt_trichotomy x 0 with h|h|h
  · exact .inl ⟨h,Int.sign_eq_neg_one_of_neg h⟩
  · exact .inr (.inl ⟨h,by rw [h];rfl⟩)
  · exact .inr (.inr ⟨h,Int.sign_eq_one_of_pos h⟩)
theorem cmp_signs {x y:Int} (h:x.sign≠y.sign):cmp x y=cmp x.sign y.sign:=by
  have h1:=sign_le (x:=x);have h2:=sign_le (x:=y)
  exact cmp_of (by omega) (by omega)
theorem cmp_neg {x y:Int} (h:¬x.sign≠y.sign) (hx:x<0):cmp x y= - cmp (x.natAbs:Int) (y.natAbs:Int):=by
  have h1:=sign_le (x:=x);have h2:=sign_le (x:=y)
  rw [cmp_flip];exact cmp_of (by omega) (by omega)
theorem cmp_pos {x y:Int} (h:¬x.sign≠y.sign) (hx:¬x<0):cmp x y=cmp (x.natAbs:Int) (y.natAbs:Int):=by
  have h1:=sign_le (x:=x);have h2:=sign_le (x:=y)
  exact cmp_of (by omega) (by omega)
end Go.Proofs.YtjeahiahjgifgaaGreatDoor.Big
namespace Go.Proofs.YtjeahiahjgifgaaGreatDoor.Big
structure ScI (A:List Int) (d:Int) (i:Nat) (os:List Int) (cy:Int):Prop where
  le:i≤A.length
  len:os.length=i
  ok:okL os
  c0:0≤cy
  c1:cy<1000000000
  val:valL os+pw i*cy=valL (A.take i)*d
theorem ScI.start (A:List Int) (d:Int):ScI A d 0 [] 0:=⟨Nat.zero_le _,rfl,okL_nil,by decide,by decide,by simp [valL]⟩
theorem sc_lim {x d cy:Int} (hx:0≤x∧x<1000000000) (hd:0≤d∧d<1000000000) (hc:0≤cy∧cy<1000000000):0≤x*d∧x*d+cy<1000000000000000000∧0≤(x*d+cy) / 1000000000∧(x*d+cy) / 1000000000<1000000000:=by
  have:=mul_lim hx hd;omega
theorem ScI.step {A:List Int} {d:Int} {i:Nat} {os:List Int} {cy:Int} (h:ScI A d i os cy) (hA:okL A) (hd:0≤d∧d<1000000000) (hi:i<A.length):
    ScI A d (i+1) (os++[(A.getD i 0*d+cy)%1000000000]) ((A.getD i 0*d+cy) / 1000000000):=by
  have hl:=sc_lim (okL_getD hA i) hd ⟨h.c0,h.c1⟩
  refine ⟨by omega,by simp [h.len],okL_snoc h.ok (by omega) (by omega),hl.2.2.1,hl.2.2.2,?_⟩
  rw [valL_snoc,h.len,valL_take_succ,pw_succ]
  have e:=h.val
  have hs:(A.getD i 0*d+cy)=1000000000*((A.getD i 0*d+cy) / 1000000000)+(A.getD i 0*d+cy)%1000000000:=by omega
  generalize (A.getD i 0*d+cy) / 1000000000=q at*
  generalize (A.getD i 0*d+cy)%1000000000=r at*
  have h2:pw i*(A.getD i 0*d+cy)=pw i*(1000000000*q+r):=by rw [hs]
  generalize A.getD i 0=x at*
  generalize valL os=a at*
  generalize valL (A.take i)=b at*
  generalize pw i=p at*
  grind
theorem ScI.fin {a d i:Nat} {os:List Int} {cy:Int} (h:ScI (digs a) (d:Int) i os cy) (hi:(digs a).length≤i):okL (os++[cy])∧valL (os++[cy])=((a*d:Nat):Int):=by
  refine ⟨okL_snoc h.ok h.c0 h.c1,?_⟩
  rw [valL_snoc,h.len,h.val,List.take_of_length_le hi,valL_digs,Int.natCast_mul]
theorem pair_val {a:Nat} (h:(digs a).length≤2):(digs a).getD 1 0*1000000000+(digs a).getD 0 0=(a:Int):=by
  have h0:=valL_drop (digs a) 0
  have h1:=valL_drop (digs a) 1
  rw [List.drop_zero,valL_digs] at h0
  have h2:valL ((digs a).drop 2)=0:=by rw [List.drop_eq_nil_of_le h];rfl
  simp only [Nat.zero_add,Nat.reduceAdd] at h0 h1
  omega
theorem two_val {u:Nat} (h:u<1000000000000000000):okL [((u%1000000000:Nat):Int),((u / 1000000000:Nat):Int)]∧valL [((u%1000000000:Nat):Int),((u / 1000000000:Nat):Int)]=(u:Int):=by
  refine ⟨okL_cons.2 ⟨by omega,okL_cons.2 ⟨by omega,okL_nil⟩⟩,?_⟩
  simp only [valL];omega
theorem valL_cut' (A:List Int) (k:Nat):valL A=valL (A.take k)+pw k*valL (A.drop k):=by
  by_cases h:k≤A.length
  · exact valL_cut A k h
  · rw [List.drop_eq_nil_of_le (by omega),List.take_of_length_le (by omega)];simp [valL]
structure PtI (A V:Nat) (j:Nat) (qs:List Int) (R:Nat):Prop where
  le:j≤(digs A).length
  ok:okL qs
  val:valL ((digs A).drop j)=valL qs*V+R
  lt:R<V
theorem PtI.start {A V n j R:Nat} (hV:(digs V).length=n+1) (hj:j+n=(digs A).length) (hR:valL ((digs A).drop j)=(R:Int)):PtI A V j [] R:=by
  refine ⟨by omega,okL_nil,by rw [hR];simp [valL],?_⟩
  have h1:=valL_lt (okL_drop (digs_ok A) j)
  rw [hR,List.length_drop,show (digs A).length - j=n by omega] at h1
  have h2:=digs_low (k:=n) (n:=V) (by omega)
  omega
theorem pt_lim {V R d:Nat} (h:R<V) (hd:d<1000000000):R*1000000000+d<V*1000000000:=by omega
theorem PtI.step {A V j:Nat} {qs:List Int} {R d g r:Nat} (h:PtI A V (j+1) qs R) (hd:(digs A).getD j 0=(d:Int)) (hg:r+V*g=R*1000000000+d) (hr:r<V):PtI A V j ((g:Int) :: qs) r:=by
  have hd1:=okL_getD (digs_ok A) j
  have hgl:g<1000000000:=by
    have h1:=pt_lim h.lt (show d<1000000000 by omega)
    exact Nat.lt_of_mul_lt_mul_left (a:=V) (by omega)
  refine ⟨Nat.le_of_succ_le h.le,okL_cons.2 ⟨by omega,h.ok⟩,?_,hr⟩
  rw [valL_drop,h.val,hd]
  simp only [valL]
  have hg2:(r:Int)+(V:Int)*(g:Int)=(R:Int)*1000000000+(d:Int):=by
    rw [← Int.natCast_mul];omega
  generalize valL qs=q at*
  grind
theorem pt_guess {W V m d:Nat} (hW:W<V*1000000000) (hV:(digs V).length=m+1) (hd:(d:Int)=((digs W).getD (m+1) 0*1000000000+(digs W).getD m 0) / ((digs V).getD m 0+1)):V*d≤W∧d<1000000000:=by
  have hw:=valL_cut' (digs W) m
  have hv:=valL_cut' (digs V) m
  rw [valL_digs] at hw hv
  have h1:=valL_drop (digs W) m
  have h2:=valL_drop (digs W) (m+1)
  have h3:=valL_nonneg (okL_drop (digs_ok W) (m+1+1))
  have h4:=valL_drop (digs V) m
  rw [List.drop_eq_nil_of_le (by omega:(digs V).length≤m+1)] at h4
  have h5:=valL_take_lt (digs_ok W) m
  have h6:=valL_take_lt (digs_ok V) m
  have h7:=okL_getD (digs_ok V) m
  have hp:=pw_pos m
  have h8:valL ([]:List Int)=0:=rfl
  have h9:=Int.mul_ediv_self_le (x:=(digs W).getD (m+1) 0*1000000000+(digs W).getD m 0) (k:=(digs V).getD m 0+1) (by omega)
  rw [← hd] at h9
  have key:(V:Int)*(d:Int)≤(W:Int):=by
    have a1:(V:Int)≤((digs V).getD m 0+1)*pw m:=by
      rw [h8,Int.mul_zero,Int.add_zero] at h4;rw [hv,h4,Int.add_mul,Int.one_mul,Int.mul_comm (pw m)];omega
    have a2:((digs W).getD (m+1) 0*1000000000+(digs W).getD m 0)*pw m≤(W:Int):=by
      have:(digs W).getD (m+1) 0*1000000000+(digs W).getD m 0≤valL ((digs W).drop m):=by omega
      have:=mul_le_of (Int.le_of_lt hp) this
      rw [Int.mul_comm (valL _)] at this;omega
    have a3:=mul_le_of (w:=(d:Int)) (by omega) a1
    have a4:=mul_le_of (Int.le_of_lt hp) h9
    have a5:((digs V).getD m 0+1)*pw m*(d:Int)=((digs V).getD m 0+1)*(d:Int)*pw m:=by grind
    omega
  have k2:V*d≤W:=by rw [← Int.natCast_mul] at key;omega
  exact ⟨k2,Nat.lt_of_mul_lt_mul_left (a:=V) (by omega)⟩
theorem PtI.fin {A V:Nat} {qs:List Int} {R:Nat} (h:PtI A V 0 qs R):valL qs=((A / V:Nat):Int)∧R=A%V:=by
  have h0:=h.val
  rw [List.drop_zero,valL_digs] at h0
  have hn:=valL_nonneg h.ok
  have hl:=h.lt
  obtain ⟨q,hq⟩:∃q:Nat,valL qs=(q:Int):=⟨(valL qs).toNat,by omega⟩
  rw [hq,←Int.natCast_mul] at h0
  have h1:A=R+V*q:=by rw [Nat.mul_comm];omega
  rw [hq,h1,Nat.add_mul_div_left _ _ (by omega),Nat.div_eq_of_lt hl,Nat.add_mul_mod_self_left,Nat.mod_eq_of_lt hl]
  simp
theorem pt_wlen {W V m:Nat} (hW:W<V*1000000000) (hV:(digs V).length=m+1):(digs W).length≤m+2:=by
  refine digs_len ?_
  have h1:=digs_lt V
  rw [hV] at h1
  rw [pw_succ];omega
theorem made_nat {l:List Int} {n:Nat} (ho:okL l) (h:valL l=(n:Int)):(sg false (valL l)).natAbs=n:=by
  rw [sg_abs (valL_nonneg ho),h];exact Int.toNat_natCast _
theorem ln_fq {x y:Int} (hy:y≠0):ln (fq x y)≤ln x+2:=by
  have key:(fq x y).natAbs≤x.natAbs+1:=by
    have hd:=Nat.div_le_self x.natAbs y.natAbs
    by_cases h:decide (x<0)=decide (y<0)
    · rw [← (fq_same hy h).1,sg_f,Int.natAbs_natCast];omega
    · by_cases hr : x.natAbs % y.natAbs = 0
      · rw [← (fq_even hy h hr).1,sg_t,Int.natAbs_neg,Int.natAbs_natCast];omega
      · rw [← (fq_odd hy h hr).1,sg_t,Int.natAbs_neg,Int.natAbs_natCast];omega
  unfold ln
  have h1:=ln_mono' key
  have h2:=len_add x.natAbs 1
  have h3:(digs 1).length=1:=by decide
  omega
end Go.Proofs.YtjeahiahjgifgaaGreatDoor.Big
namespace Go.Proofs.YtjeahiahjgifgaaGreatDoor.Big
abbrev RQ:=(Bool×List Int)×(Bool×List Int)
def qok (x:RQ):Prop:=canon x.1.1 x.1.2∧canon x.2.1 x.2.2∧0<raw x.2.1 x.2.2∧Nat.gcd (raw x.1.1 x.1.2).natAbs (raw x.2.1 x.2.2).natAbs=1
instance (x:RQ):Decidable (qok x):=inferInstanceAs (Decidable (_∧_))
def qv (x:RQ):Rat:=if qok x then Rat.divInt (raw x.1.1 x.1.2) (raw x.2.1 x.2.2) else 0
theorem divInt_parts {n d:Int} (hd:d≠0):(Rat.divInt n d).num=d.sign*n / (Nat.gcd n.natAbs d.natAbs:Nat)∧((Rat.divInt n d).den:Int)=((d.natAbs / Nat.gcd n.natAbs d.natAbs:Nat):Int):=by
  rw [Rat.num_divInt,Rat.den_divInt,if_neg hd]
  have:Int.gcd d n=Nat.gcd n.natAbs d.natAbs:=by unfold Int.gcd;rw [Nat.gcd_comm]
  rw [this];exact ⟨rfl,rfl⟩
theorem qv_parts {x:RQ} (h:qok x):(qv x).num=raw x.1.1 x.1.2∧((qv x).den:Int)=raw x.2.1 x.2.2:=by
  unfold qv;rw [if_pos h]
  obtain ⟨_,_,h3,h4⟩:=h
  obtain ⟨e1,e2⟩:=divInt_parts (n:=raw x.1.1 x.1.2) (d:=raw x.2.1 x.2.2) (by omega)
  rw [e1,e2,h4,Int.sign_eq_one_of_pos h3]
  refine ⟨by simp,by rw [Nat.div_one];omega⟩
theorem qv_not {x:RQ} (h:¬qok x):qv x=0:=by unfold qv;rw [if_neg h]
def rq (q:Rat):RQ:=((decide (q.num<0),digs q.num.natAbs),(decide ((q.den:Int)<0),digs (q.den:Int).natAbs))
theorem rq_ok (q:Rat):qok (rq q):=by
  refine ⟨canon_digs _,canon_digs _,?_,?_⟩
  · simp only [rq];rw [raw_big];have:=q.den_pos;omega
  · simp only [rq];rw [raw_big,raw_big,Int.natAbs_natCast];exact q.reduced
theorem rq_v (q:Rat):qv (rq q)=q:=by
  obtain ⟨h1,h2⟩:=qv_parts (rq_ok q)
  refine Rat.ext ?_ ?_
  · rw [h1];simp only [rq];rw [raw_big]
  · have : ((qv (rq q)).den : Int) = (q.den : Int) := by rw [h2]; simp only [rq]; rw [raw_big]
    omega
def hq (q:Rat):Nat:=max (ln q.num) (ln (q.den:Int))
theorem hq_num (q:Rat):ln q.num≤hq q:=Nat.le_max_left _ _
theorem hq_den (q:Rat):ln (q.den:Int)≤hq q:=Nat.le_max_right _ _
theorem hq_divInt {n d:Int} (hd:d≠0):hq (Rat.divInt n d)≤max (ln n) (ln d):=by
  obtain ⟨e1,e2⟩:=divInt_parts (n:=n) hd
  unfold hq
  rw [e1,e2]
  have h1:ln (d.sign*n / (Nat.gcd n.natAbs d.natAbs:Nat))≤ln n:=by
    refine zae ?_
    refine Nat.le_trans (Int.natAbs_ediv_le_natAbs _ _) ?_
    rw [Int.natAbs_mul,Int.natAbs_sign_of_ne_zero hd,Nat.one_mul];exact Nat.le_refl _
  have h2:ln ((d.natAbs / Nat.gcd n.natAbs d.natAbs:Nat):Int)≤ln d:=by
    refine zae ?_
    rw [Int.natAbs_natCast];exact Nat.div_le_self _ _
  omega
theorem den_ne (q:Rat):(q.den:Int)≠0:=by have:=q.den_pos;omega
theorem add_parts (x y:Rat):x+y=Rat.divInt (x.num*y.den+y.num*x.den) (x.den*y.den):=by
  rw [Rat.add_def',←Int.natCast_mul,Rat.divInt_ofNat]
theorem mul_parts (x y:Rat):x*y=Rat.divInt (x.num*y.num) (x.den*y.den):=by
  rw [Rat.mul_def',←Int.natCast_mul,Rat.divInt_ofNat]
theorem div_parts {x y:Rat} (hy:y.num≠0):x / y=Rat.divInt (x.num*y.den) (x.den*y.num):=by
  rw [Rat.div_def,Rat.inv_def,←Rat.num_divInt_den x,Rat.divInt_mul_divInt,Rat.num_divInt_den]
theorem hq_add (x y:Rat):hq (x+y)≤hq x+hq y+1:=by
  rw [add_parts]
  refine Nat.le_trans (hq_divInt (Int.mul_ne_zero (den_ne x) (den_ne y))) ?_
  have h1:=zfd (x.num*y.den) (y.num*x.den)
  have h2:=zab x.num y.den;have h3:=zab y.num x.den;have h4:=zab x.den y.den
  have a:=hq_num x;have b:=hq_den x;have c:=hq_num y;have d:=hq_den y
  omega
theorem hq_mul (x y:Rat):hq (x*y)≤hq x+hq y:=by
  rw [mul_parts]
  refine Nat.le_trans (hq_divInt (Int.mul_ne_zero (den_ne x) (den_ne y))) ?_
  have h2:=zab x.num y.num;have h4:=zab x.den y.den
  have a:=hq_num x;have b:=hq_den x;have c:=hq_num y;have d:=hq_den y
  omega
theorem num_ne {y:Rat} (h:y≠0):y.num≠0:=fun e=>h (Rat.num_eq_zero.1 e)
theorem hq_div (x:Rat) {y:Rat} (hy:y≠0):hq (x / y)≤hq x+hq y:=by
  rw [div_parts (num_ne hy)]
  refine Nat.le_trans (hq_divInt (Int.mul_ne_zero (den_ne x) (num_ne hy))) ?_
  have h2:=zab x.num y.den;have h4:=zab x.den y.num
  have a:=hq_num x;have b:=hq_den x;have c:=hq_num y;have d:=hq_den y
  omega
theorem hq_neg (x:Rat):hq (-x)=hq x:=by unfold hq;rw [Rat.neg_num,Rat.neg_den,zZ]
theorem hq_sub (x y:Rat):hq (x - y)≤hq x+hq y+1:=by
  rw [Rat.sub_eq_add_neg];have:=hq_add x (-y);rw [hq_neg] at this;exact this
theorem ln_one:ln 1=1:=by decide
theorem hq_int (z:Int):hq (z:Rat)≤max (ln z) 1:=by
  unfold hq;rw [Rat.num_intCast,Rat.den_intCast];exact Nat.le_of_eq (by rw [show ((1:Nat):Int)=1 from rfl,ln_one])
theorem hq_zero:hq 0=1:=by decide
theorem hq_pos (q:Rat):1≤hq q:=by
  have h:=hq_den q
  have h1:1≤ln (q.den:Int):=by
    refine Decidable.byContradiction fun hc=> ?_
    have h2:=zte (q.den:Int)
    rw [show ln (q.den:Int)=0 by omega] at h2
    have:pw 0=1:=rfl
    have:=q.den_pos;omega
  omega
theorem hq_64 {z:Int} (h1: -9223372036854775808≤z) (h2:z≤9223372036854775807):hq (z:Rat)≤3:=by
  have:=zOe h1 h2;have:=hq_int z;omega
theorem gcd_pos_right {n d:Int} (hd:d≠0):0<Nat.gcd n.natAbs d.natAbs:=Nat.gcd_pos_of_pos_right _ (by omega)
theorem red_pos {n d:Int} (hd:0<d):fq n (Nat.gcd n.natAbs d.natAbs:Nat)=(Rat.divInt n d).num∧fq d (Nat.gcd n.natAbs d.natAbs:Nat)=((Rat.divInt n d).den:Int):=by
  obtain ⟨e1,e2⟩:=divInt_parts (n:=n) (d:=d) (by omega)
  have hg:=gcd_pos_right (n:=n) (d:=d) (by omega)
  rw [e1,e2,Int.sign_eq_one_of_pos hd,Int.one_mul]
  rw [(fr_nonneg (x:=n) (y:=(Nat.gcd n.natAbs d.natAbs:Nat)) (by omega)).1,(fr_nonneg (x:=d) (y:=(Nat.gcd n.natAbs d.natAbs:Nat)) (by omega)).1]
  refine ⟨rfl,?_⟩
  rw [Int.natCast_ediv,Int.natAbs_of_nonneg (by omega)]
theorem red_flip {n d:Int} (hd:d<0):fq (-n) (Nat.gcd (-n).natAbs (-d).natAbs:Nat)=(Rat.divInt n d).num∧fq (-d) (Nat.gcd (-n).natAbs (-d).natAbs:Nat)=((Rat.divInt n d).den:Int):=by
  have:=red_pos (n:= -n) (d:= -d) (by omega)
  rw [Rat.neg_divInt_neg] at this;exact this
theorem fq_negneg (x y:Int) (hy:y≠0):fq x (-y)=fq (-x) y:=by
  unfold fq
  by_cases h:0<y
  · rw [if_neg (by omega),if_pos h,Int.neg_neg]
  · rw [if_pos (by omega),if_neg h,Int.neg_neg]
theorem red_neg {n d:Int} (hd:d<0):fq n (-(Nat.gcd n.natAbs d.natAbs:Nat))=(Rat.divInt n d).num∧fq d (-(Nat.gcd n.natAbs d.natAbs:Nat))=((Rat.divInt n d).den:Int):=by
  have hg:=gcd_pos_right (n:=n) (d:=d) (by omega)
  rw [fq_negneg _ _ (by omega),fq_negneg _ _ (by omega)]
  have:=red_flip (n:=n) hd
  rw [Int.natAbs_neg,Int.natAbs_neg] at this;exact this
def sgq (q:Rat):Int:=q.num.sign
theorem cmp_sub (a b:Int):cmp a b=(a - b).sign:=by
  unfold cmp
  split
  · rw [Int.sign_eq_neg_one_of_neg (by omega)]
  · split
    · rw [Int.sign_eq_one_of_pos (by omega)]
    · rw [show a - b=0 by omega];rfl
theorem sgq_zero {x:Rat}:sgq x=0↔x=0:=by unfold sgq;rw [Int.sign_eq_zero_iff_zero,Rat.num_eq_zero]
theorem sgq_sub_zero {x y:Rat}:sgq (x - y)=0↔x=y:=by
  rw [sgq_zero]
  constructor
  · intro h;grind
  · intro h;grind
theorem sgq_pos {x:Rat}:0<sgq x↔0<x:=by
  unfold sgq
  rw [Int.sign_pos_iff]
  have h:=Rat.num_nonneg (q:=x);have h0:=Rat.num_eq_zero (q:=x)
  constructor
  · intro h1; have h2 := h.1 (by omega); have h3 : x ≠ 0 := fun e => by rw [e] at h1; exact absurd h1 (by decide)
    grind
  · intro h1
    have h2:=h.2 (by grind)
    have h3:x.num≠0:=fun e=>by rw [h0.1 e] at h1;exact absurd h1 (by decide)
    omega
theorem sgq_le {x:Rat}:sgq x≤0↔x≤0:=by
  have h:=sgq_pos (x:=x)
  constructor
  · intro h1; have : ¬ 0 < x := fun k => by have := h.2 k; omega
    grind
  · intro h1; have : ¬ 0 < sgq x := fun k => by have := h.1 k; grind
    omega
theorem cmp_zero {x y:Int}:cmp x y=0↔x=y:=by
  unfold cmp;split
  · omega
  · split <;> omega
theorem qok_gcd {x:RQ} (h:canon x.1.1 x.1.2∧canon x.2.1 x.2.2∧0<raw x.2.1 x.2.2):cmp ((Nat.gcd (raw x.1.1 x.1.2).natAbs (raw x.2.1 x.2.2).natAbs:Nat):Int) 1=0↔qok x:=by
  rw [cmp_zero];exact ⟨fun e=>⟨h.1,h.2.1,h.2.2,by omega⟩,fun e=>by have:=e.2.2.2;omega⟩
theorem sgn_le {c d:Prop} {z:Int} (hc:c) (hd:d):z.sign≤0↔¬(c∧d∧0<z):=by
  rcases Int.lt_trichotomy z 0 with h|h|h
  · rw [Int.sign_eq_neg_one_of_neg h];exact ⟨fun _ k=>by omega,fun _=>by decide⟩
  · rw [h];exact ⟨fun _ k=>by omega,fun _=>by decide⟩
  · rw [Int.sign_eq_one_of_pos h];exact ⟨fun k=>by omega,fun k=>absurd ⟨hc,hd,h⟩ k⟩
theorem raw_parts {x:RQ} (h1:nn x.1.2) (h2:nn x.2.2) (h:qok x):decide ((qv x).num<0)=x.1.1∧digs (qv x).num.natAbs=x.1.2∧decide (((qv x).den:Int)<0)=x.2.1∧digs (((qv x).den:Nat):Int).natAbs=x.2.2:=by
  obtain ⟨e1,e2⟩:=qv_parts h
  have d1:=raw_digs (s:=x.1.1) h1;have d2:=raw_digs (s:=x.2.1) h2
  rw [if_pos h.1] at d1;rw [if_pos h.2.1] at d2
  rw [e1,e2]
  exact ⟨raw_sign h1 h.1,d1,raw_sign h2 h.2.1,d2⟩
theorem zHd {n d:Int} (hd:d≠0):ln (Nat.gcd n.natAbs d.natAbs:Nat)≤ln d:=by
  refine zae ?_
  rw [Int.natAbs_natCast];exact Nat.gcd_le_right _ (by omega)
theorem divInt_nil {n d:Int} (hd:d=0):Rat.divInt n d=0:=by rw [hd,Rat.divInt_zero]
theorem div_nil {x y:Rat} (hy:y=0):x / y=0:=by rw [hy,Rat.div_def,Rat.inv_zero,Rat.mul_zero]
theorem sign_zero {z:Int}:z.sign=0↔z=0:=Int.sign_eq_zero_iff_zero
theorem qok_sub {x:RQ} (h:canon x.1.1 x.1.2∧canon x.2.1 x.2.2∧0<raw x.2.1 x.2.2):(((Nat.gcd (raw x.1.1 x.1.2).natAbs (raw x.2.1 x.2.2).natAbs:Nat):Int) - 1).sign=0↔qok x:=by
  rw [← cmp_sub];exact qok_gcd h
end Go.Proofs.YtjeahiahjgifgaaGreatDoor.Big
namespace Go.Proofs.YtjeahiahjgifgaaGreatDoor.Sp
open Go
set_option linter.unusedVariables false
def Wd.raw (g:Hp) (w:Wd) (x:Bool×List Int):Prop:=w.s=x.1∧w.n=x.2.length∧x.2.length≤1048576∧Sl (rI .u32) g w.p w.c x.2
theorem Wd.raw_mono {g g':Hp} {w:Wd} {x:Bool×List Int} (h:g.le g') (k:w.raw g x):w.raw g' x:=⟨k.1,k.2.1,k.2.2.1,k.2.2.2.mono h⟩
def qF (c:Bool) (u v:Wd) (q:Rat):Fa:=⟨fun g=>∃x:Big.RQ,u.raw g x.1∧v.raw g x.2∧Big.qv x=q∧(c=true→Big.qok x),fun _ _ h ⟨x,a,b,d⟩=>⟨x,Wd.raw_mono h a,Wd.raw_mono h b,d⟩⟩
theorem Sl.nn {g:Hp} {p:Option Addr} {c:Nat} {l:List Int} (h:Sl (rI .u32) g p c l):Big.nn l:=fun d hd=>by
  obtain ⟨j,hj⟩:=List.getElem?_of_mem hd
  obtain ⟨_,_,_,_,_,e⟩:=h.2.2.2 j d hj
  exact (zE.1 e).1
theorem Wd.raw_is {g:Hp} {w:Wd} {x:Bool×List Int} (h:w.raw g x) (hc:Big.canon x.1 x.2):w.is g (yp x.1 x.2):=by
  have hn:=h.2.2.2.nn
  have hd:=yG (s:=x.1) hn
  rw [if_pos hc] at hd
  exact ⟨h.1.trans (Big.raw_sign hn hc).symm,by rw [hd];exact h.2.1,by rw [hd];exact h.2.2.2⟩
theorem Wd.is_raw {g:Hp} {w:Wd} {z:Int} (h:w.is g z) (hl:yH z≤1048576):w.raw g (decide (z<0),yf z.natAbs):=⟨h.1,h.2.1,hl,h.2.2⟩
section
variable {P : Program} {c : Cx} {n : Sz} {Q : Exit → Act → World → Prop} {m : Fm} {O : List As} {R : List Fa} {f : Nat} {u v : Wd} {q : Rat}
theorem qF_parts {g:Hp} (h:(qF true u v q).on g):u.is g q.num∧v.is g (q.den:Int):=by
  obtain ⟨x,a,b,e,ok⟩:=h
  have hk:=ok rfl
  obtain ⟨e1,e2⟩:=Big.qv_parts hk
  rw [← e,e1,e2]
  exact ⟨Wd.raw_is a hk.1,Wd.raw_is b hk.2.1⟩
theorem qF_open (i:Nat) (hi:R[i]? =some (qF true u v q)):∀g,Holds g R→∃x:Unit,True∧Holds g [zF u q.num,zF v (q.den:Int)]:=fun g h=>
  ⟨(),trivial,(qF_parts (Holds.get i hi h)).1,(qF_parts (Holds.get i hi h)).2,trivial⟩
theorem qF_make {g:Hp} (h1:u.is g q.num) (h2:v.is g (q.den:Int)) (hl:Big.hq q≤1048576):(qF true u v q).on g:=
  ⟨Big.rq q,Wd.is_raw h1 (Nat.le_trans (Big.hq_num q) hl),Wd.is_raw h2 (Nat.le_trans (Big.hq_den q) hl),Big.rq_v q,fun _=>Big.rq_ok q⟩
theorem qF_close (i j:Nat) {a b:Int} (hi:R[i]? =some (zF u a)) (hj:R[j]? =some (zF v b)) (h:a=q.num∧b=(q.den:Int)∧Big.hq q≤1048576):∀g,Holds g R→(qF true u v q).on g:=fun g r=>by
  have h1:u.is g a:=Holds.get i hi r
  have h2:v.is g b:=Holds.get j hj r
  rw [h.1] at h1;rw [h.2.1] at h2
  exact qF_make h1 h2 h.2.2
theorem qF_len {g:Hp} {k:Bool} (h:(qF k u v q).on g):Big.hq q≤1048576:=by
  obtain ⟨x,a,b,e,ok⟩:=h
  by_cases hk:Big.qok x
  · obtain ⟨e1, e2⟩ := Big.qv_parts hk
    rw [← e]
    unfold Big.hq yH
    rw [e1,e2]
    have h1:=yG (s:=x.1.1) a.2.2.2.nn
    have h2:=yG (s:=x.2.1) b.2.2.2.nn
    rw [if_pos hk.1] at h1;rw [if_pos hk.2.1] at h2
    rw [h1,h2]
    have:=a.2.2.1;have:=b.2.2.1;omega
  · rw [Big.qv_not hk] at e
    rw [← e,Big.hq_zero];omega
theorem qF_none (g:Hp):(qF false wz wz 0).on g:=⟨((false,[]),(false,[])),⟨rfl,rfl,by decide,Sl.nil _ _⟩,⟨rfl,rfl,by decide,Sl.nil _ _⟩,by decide +kernel,fun h=>by cases h⟩
abbrev rawL (p:Option Addr) (c:Nat) (x:Bool×List Int):List Value:=[.bool x.1,.slice p x.2.length c]
theorem Wd.rawL_eq {g:Hp} {w:Wd} {x:Bool×List Int} (h:w.raw g x):[w.b,w.l]=rawL w.p w.c x:=by rw [Wd.b,Wd.l,h.1,h.2.1]
theorem zAf {k:Bool} {Y:Type} {φ:Y→Prop} {val:Y→Value} {O':Y→List As} {R':Y→List Fa}
    (h:∀(x:Big.RQ),Big.qv x=q→(k=true→Big.qok x)→x.1.2.length≤1048576→x.2.2.length≤1048576→Con P f [.agg #[.bool x.1.1,.slice u.p x.1.2.length u.c,.bool x.2.1,.slice v.p x.2.2.length v.c]] O [slF (rI .u32) u.p u.c x.1.2,slF (rI .u32) v.p v.c x.2.2] φ val O' R'):
    Con P f [.agg #[u.b,u.l,v.b,v.l]] O [qF k u v q] φ val O' R':=
  Con.of (X:=Big.RQ) (ψ:=fun x=>Big.qv x=q∧(k=true→Big.qok x)∧x.1.2.length≤1048576∧x.2.2.length≤1048576) (A2:=fun x=>[.agg #[.bool x.1.1,.slice u.p x.1.2.length u.c,.bool x.2.1,.slice v.p x.2.2.length v.c]]) (R2:=fun x=>[slF (rI .u32) u.p u.c x.1.2,slF (rI .u32) v.p v.c x.2.2])
    (fun x hx=>h x hx.1 hx.2.1 hx.2.2.1 hx.2.2.2) fun g r=>by
      obtain ⟨x,a,b,e,ok⟩:=r.1
      refine ⟨x,⟨e,ok,a.2.2.1,b.2.2.1⟩,?_,a.2.2.2,b.2.2.2,trivial⟩
      have h1:=Wd.rawL_eq a;have h2:=Wd.rawL_eq b
      simp only [rawL,List.cons.injEq,and_true] at h1 h2
      rw [h1.1,h1.2,h2.1,h2.2]
theorem zRe {k:Bool} {Y:Type} {φ:Y→Prop} {val:Y→Value} {O':Y→List As} {R':Y→List Fa}
    (h:∀(x:Big.RQ),Big.qv x=q→(k=true→Big.qok x)→x.1.2.length≤1048576→x.2.2.length≤1048576→Big.hq q≤1048576→Con P f [.agg #[.bool x.1.1,.slice u.p x.1.2.length u.c,.bool x.2.1,.slice v.p x.2.2.length v.c]] O [slF (rI .u32) u.p u.c x.1.2,slF (rI .u32) v.p v.c x.2.2] φ val O' R'):
    Con P f [.agg #[u.b,u.l,v.b,v.l]] O [qF k u v q] φ val O' R':=fun w hh g s r ap h1 h2=>
  zAf (fun x a b c d=>h x a b c d (qF_len r.1)) w hh g s r ap h1 h2
theorem con_qr {A:List Value} {z d:Int} (h:Con P f A O R (Y:=Option Addr×Nat×Option Addr×Nat) (fun _=>True) (fun y=> .agg #[.bool (decide (z<0)),.slice y.1 (yf z.natAbs).length y.2.1,.bool (decide (d<0)),.slice y.2.2.1 (yf d.natAbs).length y.2.2.2]) (fun _=>[]) (fun y=>[bigS z y.1 y.2.1,bigS d y.2.2.1 y.2.2.2]))
    (hz:z=q.num) (hd:d=(q.den:Int)) (hl:Big.hq q≤1048576):Con P f A O R (Y:=Wd×Wd) (fun _=>True) (fun w=> .agg #[w.1.b,w.1.l,w.2.b,w.2.l]) (fun _=>[]) (fun w=>[qF true w.1 w.2 q]):=
  h.told (fun y=>(⟨decide (z<0),y.1,(yf z.natAbs).length,y.2.1⟩,⟨decide (d<0),y.2.2.1,(yf d.natAbs).length,y.2.2.2⟩)) (fun _=>rfl) (fun _ _=>trivial) (fun _=>rfl)
    (fun y _ g r=>⟨qF_make (q:=q) ⟨by rw [hz],by rw [hz],hz ▸ r.1⟩ ⟨by rw [hd],by rw [hd],hd ▸ r.2.1⟩ hl,trivial⟩)
theorem zSe {A:List Value} {z d:Int} {k:Value} (h:Con P f A O R (Y:=Option Addr×Nat×Option Addr×Nat) (fun _=>True) (fun y=> .tuple #[.agg #[.bool (decide (z<0)),.slice y.1 (yf z.natAbs).length y.2.1],.agg #[.bool (decide (d<0)),.slice y.2.2.1 (yf d.natAbs).length y.2.2.2],k]) (fun _=>[]) (fun y=>[bigS z y.1 y.2.1,bigS d y.2.2.1 y.2.2.2])):
    Con P f A O R (Y:=Wd×Wd) (fun _=>True) (fun w=> .tuple #[.agg #[w.1.b,w.1.l],.agg #[w.2.b,w.2.l],k]) (fun _=>[]) (fun w=>[zF w.1 z,zF w.2 d]):=
  h.told (fun y=>(⟨decide (z<0),y.1,(yf z.natAbs).length,y.2.1⟩,⟨decide (d<0),y.2.2.1,(yf d.natAbs).length,y.2.2.2⟩)) (fun _=>rfl) (fun _ _=>trivial) (fun _=>rfl)
    (fun y _ g r=>⟨⟨rfl,rfl,r.1⟩,⟨rfl,rfl,r.2.1⟩,trivial⟩)
theorem qF_rawI {s t:Bool} {p1 p2:Option Addr} {n1 c1 n2 c2:Nat} {l1 l2:List Int} (i j:Nat) (hi:R[i]? =some (slF (rI .u32) p1 c1 l1)) (hj:R[j]? =some (slF (rI .u32) p2 c2 l2)) (hn1:l1.length=n1) (hn2:l2.length=n2) (hm1:n1≤1048576) (hm2:n2≤1048576) (hq:Big.qok ((s,l1),(t,l2))):
    ∀g,Holds g R→(qF true ⟨s,p1,n1,c1⟩ ⟨t,p2,n2,c2⟩ (Big.qv ((s,l1),(t,l2)))).on g:=fun g r=>by
  subst hn1;subst hn2
  exact ⟨((s,l1),(t,l2)),⟨rfl,rfl,hm1,Holds.get i hi r⟩,⟨rfl,rfl,hm2,Holds.get j hj r⟩,rfl,fun _=>hq⟩
end
section
variable {P : Program} {c : Cx} {m : Fm} {O : List As} {R : List Fa}
end
section
variable {P : Program} {n : Sz} {m : Fm} {d : Option Tmp} {ty : TypeId} {ps : String} {af : Array Edge} {gd : Option (Nat × Bool)}
end
end Go.Proofs.YtjeahiahjgifgaaGreatDoor.Sp
namespace Go.Proofs.YtjeahiahjgifgaaGreatDoor.Sp
open Go
set_option linter.unusedVariables false
theorem kr {p:Prop} (h:p:=by kernel_rfl):p:=h
theorem ass {p:Prop} (h:p:=by assumption):p:=h
theorem cbb {p:Prop} (h:p:=by first|rfl|assumption|omega|(simp;done)|(simp;omega)|(simp_all;done)):p:=h
theorem cbo {p:Prop} (h:p:=by first|rfl|assumption|omega):p:=h
theorem cbd {p:Prop} (h:p:=by first|rfl|assumption|decide|omega):p:=h
theorem cbs {p:Prop} (h:p:=by first|rfl|assumption|(simp_all;done)|omega):p:=h
theorem cbu {p:Prop} (h:p:=by first|(simp_all;done)|(simp_all;omega)|(simp;omega)|omega):p:=h
theorem om {p:Prop} (h:p:=by omega):p:=h
theorem dd {p:Prop} (h:p:=by decide):p:=h
theorem aq {α:Type} {l m:List α}:List.append l m=l++m:=rfl
theorem nq {α:Type} {l:List α}:[]++l=l:=rfl
theorem cq {α:Type} {a:α} {l m:List α}:a :: l++m=a :: (l++m):=rfl
theorem Slc.t2 {cells:List Value} {k:Nat} {cs:List Value} {a b:Value} (h:Slc cells 0 k cs):Slc (a :: b :: cells) 0 (k+2) (a :: b :: cs):= .take (.take h)
theorem Slc.t4 {cells:List Value} {k:Nat} {cs:List Value} {a b c d:Value} (h:Slc cells 0 k cs):Slc (a :: b :: c :: d :: cells) 0 (k+4) (a :: b :: c :: d :: cs):= .t2 (.t2 h)
theorem Slc.t8 {cells:List Value} {k:Nat} {cs:List Value} {a b c d e f g i:Value} (h:Slc cells 0 k cs):Slc (a :: b :: c :: d :: e :: f :: g :: i :: cells) 0 (k+8) (a :: b :: c :: d :: e :: f :: g :: i :: cs):= .t4 (.t4 h)
theorem Slc.s2 {cells:List Value} {k off:Nat} {cs:List Value} {a b:Value} (h:Slc cells off k cs):Slc (a :: b :: cells) (off+2) k cs:= .skip (.skip h)
theorem Slc.s4 {cells:List Value} {k off:Nat} {cs:List Value} {a b c d:Value} (h:Slc cells off k cs):Slc (a :: b :: c :: d :: cells) (off+4) k cs:= .s2 (.s2 h)
theorem Slc.s8 {cells:List Value} {k off:Nat} {cs:List Value} {a b c d e f g i:Value} (h:Slc cells off k cs):Slc (a :: b :: c :: d :: e :: f :: g :: i :: cells) (off+8) k cs:= .s4 (.s4 h)
theorem Upd.t2 {cells news cells':List Value} {a b a' b':Value} (h:Upd cells 0 news cells'):Upd (a :: b :: cells) 0 (a' :: b' :: news) (a' :: b' :: cells'):= .take (.take h)
theorem Upd.t4 {cells news cells':List Value} {a b c d a' b' c' d':Value} (h:Upd cells 0 news cells'):Upd (a :: b :: c :: d :: cells) 0 (a' :: b' :: c' :: d' :: news) (a' :: b' :: c' :: d' :: cells'):= .t2 (.t2 h)
theorem Upd.t8 {cells news cells':List Value} {a b c d e f g i a' b' c' d' e' f' g' i':Value} (h:Upd cells 0 news cells'):Upd (a :: b :: c :: d :: e :: f :: g :: i :: cells) 0 (a' :: b' :: c' :: d' :: e' :: f' :: g' :: i' :: news) (a' :: b' :: c' :: d' :: e' :: f' :: g' :: i' :: cells'):= .t4 (.t4 h)
theorem Upd.s2 {cells news cells':List Value} {off:Nat} {a b:Value} (h:Upd cells off news cells'):Upd (a :: b :: cells) (off+2) news (a :: b :: cells'):= .skip (.skip h)
theorem Upd.s4 {cells news cells':List Value} {off:Nat} {a b c d:Value} (h:Upd cells off news cells'):Upd (a :: b :: c :: d :: cells) (off+4) news (a :: b :: c :: d :: cells'):= .s2 (.s2 h)
theorem Upd.s8 {cells news cells':List Value} {off:Nat} {a b c d e f g i:Value} (h:Upd cells off news cells'):Upd (a :: b :: c :: d :: e :: f :: g :: i :: cells) (off+8) news (a :: b :: c :: d :: e :: f :: g :: i :: cells'):= .s4 (.s4 h)
variable {P : Program} {ops : Array Oper} {Q : Exit → Act → World → Prop} {c : Cx} {n : Sz} {wi k : Nat} {L : Array Bool} {m : Fm} {OW O : List As} {R : List Fa} {op : Op} {t0 : Tmp} {ty : TypeId} {ps : String} {af : Array Edge} {gd : Option (Nat × Bool)}
def ckD (ops:Array Oper) (L:Array Bool) (wi i:Nat):Bool:= !(Nat.beq i wi)&&(Region.free .any ops L i&&(Region.ready .any ops L).contains i)
theorem ckD_out {i:Nat} (h:ckD ops L wi i=true):Nat.beq i wi=false∧Region.free .any ops L i=true∧(Region.ready .any ops L).contains i=true:=by
  unfold ckD at h
  rw [Bool.and_eq_true,Bool.and_eq_true,Bool.not_eq_true'] at h
  exact h
def ckW (ops:Array Oper) (L:Array Bool) (wi i:Nat):Bool:=depB ops wi i&&ckD ops L wi i
theorem ckW_out {i:Nat} (h:ckW ops L wi i=true):depB ops wi i=true∧Nat.beq i wi=false∧Region.free .any ops L i=true∧(Region.ready .any ops L).contains i=true:=by
  unfold ckW at h
  rw [Bool.and_eq_true] at h
  exact ⟨h.1,ckD_out h.2⟩
theorem e_pv (i:Nat) (hi:ops[i]? =some ⟨some t0,op,ty,ps,af,gd⟩) (hw':wnt ops m ⟨some t0,op,ty,ps,af,gd⟩=some true) {v:Value} (h:PV P n ⟨some t0,op,ty,ps,af,gd⟩ m v)
    (kont:RunD P ops Q c n wi k (L.setIfInBounds i true) ((t0,v) :: m) OW O R) (hd:Nat.ble (t0+1) n.sz=true:=by exact rfl) (ck:ckD ops L wi i=true:=by kernel_rfl):RunD P ops Q c n wi (k+1) L m OW O R:=
  d_pv i hi (ckD_out ck).1 (ckD_out ck).2.1 (ckD_out ck).2.2 hw' hd h kont
theorem e_dm (i:Nat) {x:Operand} (hi:ops[i]? =some ⟨some t0,.move x,ty,ps,af,gd⟩) (hw':wnt ops m ⟨some t0,.move x,ty,ps,af,gd⟩=some true) {v:Value} (h:evo m x=some v)
    (kont:RunD P ops Q c n wi k (L.setIfInBounds i true) ((t0,v) :: m) OW O R) (hd:Nat.ble (t0+1) n.sz=true:=by exact rfl) (ck:ckD ops L wi i=true:=by kernel_rfl):RunD P ops Q c n wi (k+1) L m OW O R:=
  d_pv i hi (ckD_out ck).1 (ckD_out ck).2.1 (ckD_out ck).2.2 hw' hd (zva h) kont
theorem e_skip (i:Nat) (hi:ops[i]? =some ⟨some t0,op,ty,ps,af,gd⟩) (hw':wnt ops m ⟨some t0,op,ty,ps,af,gd⟩=some false)
    (kont:RunD P ops Q c n wi k (L.setIfInBounds i true) ((t0,undef) :: m) OW O R) (hd:Nat.ble (t0+1) n.sz=true:=by exact rfl) (ck:ckD ops L wi i=true:=by kernel_rfl):RunD P ops Q c n wi (k+1) L m OW O R:=
  d_skip i hi (ckD_out ck).1 (ckD_out ck).2.1 (ckD_out ck).2.2 hw' hd kont
theorem e_u (i:Nat) (hi:ops[i]? =some ⟨some t0,op,ty,ps,af,gd⟩) (hw':wnt ops m ⟨some t0,op,ty,ps,af,gd⟩=some true) {v:Value} (h:Vl P n ⟨some t0,op,ty,ps,af,gd⟩ m O R (Y:=Unit) (fun _=>True) (fun _=>v) (fun _=>[]))
    (kont:RunD P ops Q c n wi k (L.setIfInBounds i true) ((t0,v) :: m) OW O R) (hd:Nat.ble (t0+1) n.sz=true:=by exact rfl) (ck:ckD ops L wi i=true:=by kernel_rfl):RunD P ops Q c n wi (k+1) L m OW O R:=
  d_u i hi (ckD_out ck).1 (ckD_out ck).2.1 (ckD_out ck).2.2 hw' hd h kont
theorem e_uw (i:Nat) (hi:ops[i]? =some ⟨some t0,op,ty,ps,af,gd⟩) (hw':wnt ops m ⟨some t0,op,ty,ps,af,gd⟩=some true) {v:Value} (h:Vl P n ⟨some t0,op,ty,ps,af,gd⟩ m (OW++O) R (Y:=Unit) (fun _=>True) (fun _=>v) (fun _=>[]))
    (kont:RunD P ops Q c n wi k (L.setIfInBounds i true) ((t0,v) :: m) OW O R) (hd:Nat.ble (t0+1) n.sz=true:=by exact rfl) (ck:ckW ops L wi i=true:=by kernel_rfl):RunD P ops Q c n wi (k+1) L m OW O R:=
  d_uw i hi (ckW_out ck).2.1 (ckW_out ck).1 (ckW_out ck).2.2.1 (ckW_out ck).2.2.2 hw' hd h kont
theorem e_one (i:Nat) (h:RunO P ops Q c n wi k L i m OW O R) (hr:Region.ready .any ops L=[i]:=by kernel_rfl):RunD P ops Q c n wi (k+1) L m OW O R:=zRa i hr h
section
variable {ro : Option Nat} {l : List Oper} {t : Tmp}
theorem e_p {v:Value} (h:PV P n ⟨some t,op,ty,ps,af,gd⟩ m v) (kont:RunL (ro:=ro) P ops Q c n l ((t,v) :: m) O R) (hw:wnt ops m ⟨some t,op,ty,ps,af,gd⟩=some true:=by exact rfl) (hd:Nat.ble (t+1) n.sz=true:=by exact rfl):RunL (ro:=ro) P ops Q c n (⟨some t,op,ty,ps,af,gd⟩ :: l) m O R:=r_pv hw hd h kont
theorem e_mv {x:Operand} {v:Value} (h:evo m x=some v) (kont:RunL (ro:=ro) P ops Q c n l ((t,v) :: m) O R) (hw:wnt ops m ⟨some t,.move x,ty,ps,af,gd⟩=some true:=by exact rfl) (hd:Nat.ble (t+1) n.sz=true:=by exact rfl):RunL (ro:=ro) P ops Q c n (⟨some t,.move x,ty,ps,af,gd⟩ :: l) m O R:=r_pv hw hd (zva h) kont
theorem e_no (kont:RunL (ro:=ro) P ops Q c n l ((t,undef) :: m) O R) (hw:wnt ops m ⟨some t,op,ty,ps,af,gd⟩=some false:=by exact rfl) (hd:Nat.ble (t+1) n.sz=true:=by exact rfl):RunL (ro:=ro) P ops Q c n (⟨some t,op,ty,ps,af,gd⟩ :: l) m O R:=zse hw hd kont
theorem e_ru {v:Value} (h:Vl P n ⟨some t,op,ty,ps,af,gd⟩ m O R (Y:=Unit) (fun _=>True) (fun _=>v) (fun _=>[])) (kont:RunL (ro:=ro) P ops Q c n l ((t,v) :: m) O R) (hw:wnt ops m ⟨some t,op,ty,ps,af,gd⟩=some true:=by exact rfl) (hd:Nat.ble (t+1) n.sz=true:=by exact rfl):RunL (ro:=ro) P ops Q c n (⟨some t,op,ty,ps,af,gd⟩ :: l) m O R:=r_u hw hd h kont
end
end Go.Proofs.YtjeahiahjgifgaaGreatDoor.Sp
namespace Go.Proofs.YtjeahiahjgifgaaGreatDoor.Sh
open Go.Proofs.YtjeahiahjgifgaaGreatDoor.Big
structure S where
  (fi st ta xa ya za qa qb qc qd tb xb yb zb ra rb rc rd:Int)
structure C where
  (fo cx cy:Int)
abbrev Q4:=Int×Int×Int×Int
abbrev R3:=Rat×Rat×Rat
abbrev M9:=R3×R3×R3
def wi (m:Int) (l:List Int):Prop:=∀x∈l,-m≤x∧x≤m
instance (m:Int) (l:List Int):Decidable (wi m l):=by unfold wi;infer_instance
theorem wi_2 {m a b:Int}:wi m [a,b]↔(-m≤a∧a≤m)∧(-m≤b∧b≤m):=by simp [wi]
theorem wi_3 {m a b c:Int}:wi m [a,b,c]↔(-m≤a∧a≤m)∧(-m≤b∧b≤m)∧(-m≤c∧c≤m):=by simp [wi]
theorem wi_4 {m a b c d:Int}:wi m [a,b,c,d]↔(-m≤a∧a≤m)∧(-m≤b∧b≤m)∧(-m≤c∧c≤m)∧(-m≤d∧d≤m):=by simp [wi]
def tm (s:S) (r:Int):Int:=s.fi+r*s.st
def mix (s:S) (r a b:Int):Int:=(s.tb - tm s r)*a+(tm s r - s.ta)*b
def raw (s:S) (r:Int):Q4:=(mix s r s.qa s.ra,mix s r s.qb s.rb,mix s r s.qc s.rc,mix s r s.qd s.rd)
def ls (q:Q4):List Int:=[q.1,q.2.1,q.2.2.1,q.2.2.2]
def gl (l:List Int):Nat:=l.foldl (fun g x=>Nat.gcd g x.natAbs) 0
def g4 (q:Q4):Nat:=gl (ls q)
def red (q:Q4):Q4:=(q.1.tdiv (g4 q:Int),q.2.1.tdiv (g4 q:Int),q.2.2.1.tdiv (g4 q:Int),q.2.2.2.tdiv (g4 q:Int))
def rot (s:S) (r:Int):Q4:=red (raw s r)
abbrev z4 (q:Q4):Prop:=q.1=0∧q.2.1=0∧q.2.2.1=0∧q.2.2.2=0
def qA (s:S):Q4:=(s.qa,s.qb,s.qc,s.qd)
def qB (s:S):Q4:=(s.ra,s.rb,s.rc,s.rd)
def okN (s:S):Prop:=wi 1073741824 [s.fi,s.st,s.ta,s.tb]
def okA (s:S):Prop:=wi 1048576 [s.xa,s.ya,s.za]∧wi 32768 [s.qa,s.qb,s.qc,s.qd]
def okB (s:S):Prop:=wi 1048576 [s.xb,s.yb,s.zb]∧wi 32768 [s.ra,s.rb,s.rc,s.rd]
instance (s:S):Decidable (okN s):=by unfold okN;infer_instance
instance (s:S):Decidable (okA s):=by unfold okA;infer_instance
instance (s:S):Decidable (okB s):=by unfold okB;infer_instance
def dgn (s:S) (n:Nat):Prop:=∃r,r<n∧z4 (rot s (r:Int))
instance (s:S) (n:Nat):Decidable (dgn s n):=by unfold dgn;infer_instance
def chk (s:S) (n:Int):Int:=
  if n<1∨64<n∨¬okN s then 2 else if ¬okA s then 2 else if ¬okB s then 2 else
  if z4 (qA s)∨z4 (qB s)∨s.tb≤s.ta then 1 else if dgn s n.toNat then 13 else 0
structure Ok (s:S):Prop where
  n:(-1073741824≤s.fi∧s.fi≤1073741824)∧(-1073741824≤s.st∧s.st≤1073741824)∧(-1073741824≤s.ta∧s.ta≤1073741824)∧(-1073741824≤s.tb∧s.tb≤1073741824)
  pa:(-1048576≤s.xa∧s.xa≤1048576)∧(-1048576≤s.ya∧s.ya≤1048576)∧(-1048576≤s.za∧s.za≤1048576)
  pb:(-1048576≤s.xb∧s.xb≤1048576)∧(-1048576≤s.yb∧s.yb≤1048576)∧(-1048576≤s.zb∧s.zb≤1048576)
  qa:(-32768≤s.qa∧s.qa≤32768)∧(-32768≤s.qb∧s.qb≤32768)∧(-32768≤s.qc∧s.qc≤32768)∧(-32768≤s.qd∧s.qd≤32768)
  qb:(-32768≤s.ra∧s.ra≤32768)∧(-32768≤s.rb∧s.rb≤32768)∧(-32768≤s.rc∧s.rc≤32768)∧(-32768≤s.rd∧s.rd≤32768)
theorem ok_of {s:S} (h1:okN s) (h2:okA s) (h3:okB s):Ok s:=⟨wi_4.1 h1,wi_3.1 h2.1,wi_3.1 h3.1,wi_4.1 h2.2,wi_4.1 h3.2⟩
theorem chk_ok {s:S} {n:Int} (h:chk s n=0):Ok s∧(1≤n∧n≤64)∧s.ta<s.tb∧¬dgn s n.toNat:=by
  unfold chk at h
  split at h
  · cases h
  rename_i h1;split at h
  · cases h
  rename_i h2;split at h
  · cases h
  rename_i h3;split at h
  · cases h
  rename_i h4;split at h
  · cases h
  rename_i h5
  exact ⟨ok_of (Decidable.not_not.1 fun e=>h1 (Or.inr (Or.inr e))) (Decidable.not_not.1 h2) (Decidable.not_not.1 h3),⟨by omega,by omega⟩,by omega,h5⟩
theorem tm_b {s:S} (h:Ok s) {r:Int} (hr:0≤r∧r≤64): -70000000000≤tm s r∧tm s r≤70000000000:=by
  have:=h.n
  unfold tm
  have k: -(64*1073741824)≤r*s.st∧r*s.st≤64*1073741824:=by
    have a:r*s.st≤r*1073741824:=Int.mul_le_mul_of_nonneg_left (by omega) hr.1
    have b:r* -1073741824≤r*s.st:=Int.mul_le_mul_of_nonneg_left (by omega) hr.1
    omega
  omega
theorem mul_b {x y m n:Int} (hx: -m≤x∧x≤m) (hy: -n≤y∧y≤n): -(m*n)≤x*y∧x*y≤m*n:=by
  have h1:(x*y).natAbs≤m.natAbs*n.natAbs:=by rw [Int.natAbs_mul];exact Nat.mul_le_mul (by omega) (by omega)
  have h2:((m.natAbs*n.natAbs:Nat):Int)=m*n:=by rw [Int.natCast_mul,Int.natAbs_of_nonneg (by omega),Int.natAbs_of_nonneg (by omega)]
  omega
theorem mix_b {s:S} (h:Ok s) {r:Int} (hr:0≤r∧r≤64) {a b:Int} (ha: -32768≤a∧a≤32768) (hb: -32768≤b∧b≤32768):
    (-2362232012800000≤(s.tb - tm s r)*a∧(s.tb - tm s r)*a≤2362232012800000)∧(-2362232012800000≤(tm s r - s.ta)*b∧(tm s r - s.ta)*b≤2362232012800000):=by
  have t:=tm_b h hr
  have:=h.n
  have h1:=mul_b (x:=s.tb - tm s r) (y:=a) (m:=72000000000) (n:=32768) (by omega) ha
  have h2:=mul_b (x:=tm s r - s.ta) (y:=b) (m:=72000000000) (n:=32768) (by omega) hb
  omega
theorem tdiv_b {x:Int} {g:Nat} {m:Int} (h: -m≤x∧x≤m): -m≤x.tdiv (g:Int)∧x.tdiv (g:Int)≤m:=by
  have h1:(x.tdiv (g:Int)).natAbs≤x.natAbs:=by rw [Int.natAbs_tdiv];exact Nat.div_le_self _ _
  omega
theorem raw_b {s:S} (h:Ok s) {r:Int} (hr:0≤r∧r≤64):(-4724464025600000≤(raw s r).1∧(raw s r).1≤4724464025600000)∧(-4724464025600000≤(raw s r).2.1∧(raw s r).2.1≤4724464025600000)∧(-4724464025600000≤(raw s r).2.2.1∧(raw s r).2.2.1≤4724464025600000)∧(-4724464025600000≤(raw s r).2.2.2∧(raw s r).2.2.2≤4724464025600000):=by
  have b1:=mix_b h hr h.qa.1 h.qb.1
  have b2:=mix_b h hr h.qa.2.1 h.qb.2.1
  have b3:=mix_b h hr h.qa.2.2.1 h.qb.2.2.1
  have b4:=mix_b h hr h.qa.2.2.2 h.qb.2.2.2
  unfold raw mix
  simp only
  omega
def sm (q:Q4):Prop:=(-4724464025600000≤q.1∧q.1≤4724464025600000)∧(-4724464025600000≤q.2.1∧q.2.1≤4724464025600000)∧(-4724464025600000≤q.2.2.1∧q.2.2.1≤4724464025600000)∧(-4724464025600000≤q.2.2.2∧q.2.2.2≤4724464025600000)
theorem rot_b {s:S} (h:Ok s) {r:Int} (hr:0≤r∧r≤64):sm (rot s r):=by
  have b:=raw_b h hr
  exact ⟨tdiv_b b.1,tdiv_b b.2.1,tdiv_b b.2.2.1,tdiv_b b.2.2.2⟩
theorem red_zero {q:Q4} (h:g4 q=0):red q=(0,0,0,0):=by
  unfold red;rw [h];simp
def frc (s:S) (r:Int):Rat:=Rat.divInt (tm s r - s.ta) (s.tb - s.ta)
theorem frc_eq (s:S) (r:Int):frc s r=((tm s r - s.ta:Int):Rat) / ((s.tb - s.ta:Int):Rat):=by unfold frc;rw [Rat.divInt_eq_div]
def ps (s:S) (r a b:Int):Rat:=((a:Int):Rat)+frc s r*((b - a:Int):Rat)
def pos (s:S) (r:Int):R3:=(ps s r s.xa s.xb,ps s r s.ya s.yb,ps s r s.za s.zb)
theorem hqA {x y:Rat} {a b:Nat} (h1:hq x≤a) (h2:hq y≤b):hq (x+y)≤a+b+1:=by have:=hq_add x y;omega
theorem hqS {x y:Rat} {a b:Nat} (h1:hq x≤a) (h2:hq y≤b):hq (x - y)≤a+b+1:=by have:=hq_sub x y;omega
theorem hqM {x y:Rat} {a b:Nat} (h1:hq x≤a) (h2:hq y≤b):hq (x*y)≤a+b:=by have:=hq_mul x y;omega
theorem hqN {x:Rat} {a:Nat} (h1:hq x≤a):hq (-x)≤a:=by rw [hq_neg];exact h1
theorem hqD {x y:Rat} {a b:Nat} (h1:hq x≤a) (h2:hq y≤b):hq (x / y)≤a+b:=by
  by_cases h:y=0
  · rw [div_nil h,hq_zero];have:=hq_pos x;omega
  · have:=hq_div x h;omega
theorem hqI {z:Int} (h1: -9223372036854775808≤z) (h2:z≤9223372036854775807):hq ((z:Int):Rat)≤3:=hq_64 h1 h2
theorem hqX {x y:Rat} {a b:Nat} (h1:hq x≤a:=by (repeat' (first|with_reducible assumption|((with_reducible refine Go.Proofs.YtjeahiahjgifgaaGreatDoor.Sh.hqI ?_ ?_) <;> omega)|with_reducible apply Go.Proofs.YtjeahiahjgifgaaGreatDoor.Sh.hqM|with_reducible apply Go.Proofs.YtjeahiahjgifgaaGreatDoor.Sh.hqA|with_reducible apply Go.Proofs.YtjeahiahjgifgaaGreatDoor.Sh.hqS|with_reducible apply Go.Proofs.YtjeahiahjgifgaaGreatDoor.Sh.hqD|with_reducible apply Go.Proofs.YtjeahiahjgifgaaGreatDoor.Sh.hqN))) (h2:hq y≤b:=by (repeat' (first|with_reducible assumption|((with_reducible refine Go.Proofs.YtjeahiahjgifgaaGreatDoor.Sh.hqI ?_ ?_) <;> omega)|with_reducible apply Go.Proofs.YtjeahiahjgifgaaGreatDoor.Sh.hqM|with_reducible apply Go.Proofs.YtjeahiahjgifgaaGreatDoor.Sh.hqA|with_reducible apply Go.Proofs.YtjeahiahjgifgaaGreatDoor.Sh.hqS|with_reducible apply Go.Proofs.YtjeahiahjgifgaaGreatDoor.Sh.hqD|with_reducible apply Go.Proofs.YtjeahiahjgifgaaGreatDoor.Sh.hqN))) (h:a+b+1≤1048576:=by decide):hq x+hq y+1≤1048576:=by omega
theorem hqY {x y:Rat} {a b:Nat} (h1:hq x≤a:=by (repeat' (first|with_reducible assumption|((with_reducible refine Go.Proofs.YtjeahiahjgifgaaGreatDoor.Sh.hqI ?_ ?_) <;> omega)|with_reducible apply Go.Proofs.YtjeahiahjgifgaaGreatDoor.Sh.hqM|with_reducible apply Go.Proofs.YtjeahiahjgifgaaGreatDoor.Sh.hqA|with_reducible apply Go.Proofs.YtjeahiahjgifgaaGreatDoor.Sh.hqS|with_reducible apply Go.Proofs.YtjeahiahjgifgaaGreatDoor.Sh.hqD|with_reducible apply Go.Proofs.YtjeahiahjgifgaaGreatDoor.Sh.hqN))) (h2:hq y≤b:=by (repeat' (first|with_reducible assumption|((with_reducible refine Go.Proofs.YtjeahiahjgifgaaGreatDoor.Sh.hqI ?_ ?_) <;> omega)|with_reducible apply Go.Proofs.YtjeahiahjgifgaaGreatDoor.Sh.hqM|with_reducible apply Go.Proofs.YtjeahiahjgifgaaGreatDoor.Sh.hqA|with_reducible apply Go.Proofs.YtjeahiahjgifgaaGreatDoor.Sh.hqS|with_reducible apply Go.Proofs.YtjeahiahjgifgaaGreatDoor.Sh.hqD|with_reducible apply Go.Proofs.YtjeahiahjgifgaaGreatDoor.Sh.hqN))) (h:a+b+1≤1048576:=by omega):hq x+hq y+1≤1048576:=by omega
theorem ax {p:Prop} (h:p:=by first|rfl|assumption|omega|(exact Go.Proofs.YtjeahiahjgifgaaGreatDoor.Sh.hqX)):p:=h
theorem ay {p:Prop} (h:p:=by first|rfl|assumption|decide|omega|exact Go.Proofs.YtjeahiahjgifgaaGreatDoor.Sh.hqX):p:=h
theorem az {p:Prop} (h:p:=by first|rfl|assumption|omega|exact Go.Proofs.YtjeahiahjgifgaaGreatDoor.Sh.hqY):p:=h
theorem hq0:hq ((0:Int):Rat)≤3:=hqI (by decide) (by decide)
theorem frc_hq {s:S} (h:Ok s) {r:Int} (hr:0≤r∧r≤64):hq (frc s r)≤6:=by
  have t:=tm_b h hr
  have:=h.n
  rw [frc_eq];exact hqD (hqI (by omega) (by omega)) (hqI (by omega) (by omega))
theorem ps_hq {s:S} (h:Ok s) {r:Int} (hr:0≤r∧r≤64) {a b:Int} (ha: -1048576≤a∧a≤1048576) (hb: -1048576≤b∧b≤1048576):hq (ps s r a b)≤13:=
  hqA (hqI (by omega) (by omega)) (hqM (frc_hq h hr) (hqI (by omega) (by omega)))
theorem pos_hq {s:S} (h:Ok s) {r:Int} (hr:0≤r∧r≤64):hq (pos s r).1≤13∧hq (pos s r).2.1≤13∧hq (pos s r).2.2≤13:=
  ⟨ps_hq h hr h.pa.1 h.pb.1,ps_hq h hr h.pa.2.1 h.pb.2.1,ps_hq h hr h.pa.2.2 h.pb.2.2⟩
def pr (n x y:Int):Rat:=((n:Int):Rat)*(((x:Int):Rat)*((y:Int):Rat))
def s4 (a b c d:Rat):Rat:=(((((0:Int):Rat)+a)+b)+c)+d
def s2 (a b:Rat):Rat:=(((0:Int):Rat)+a)+b
def mat (q:Q4):M9:=
  ((s4 (pr 1 q.1 q.1) (pr 1 q.2.1 q.2.1) (pr (-1) q.2.2.1 q.2.2.1) (pr (-1) q.2.2.2 q.2.2.2),s2 (pr 2 q.2.1 q.2.2.1) (pr (-2) q.1 q.2.2.2),s2 (pr 2 q.2.1 q.2.2.2) (pr 2 q.1 q.2.2.1)),
   (s2 (pr 2 q.2.1 q.2.2.1) (pr 2 q.1 q.2.2.2),s4 (pr 1 q.1 q.1) (pr (-1) q.2.1 q.2.1) (pr 1 q.2.2.1 q.2.2.1) (pr (-1) q.2.2.2 q.2.2.2),s2 (pr 2 q.2.2.1 q.2.2.2) (pr (-2) q.1 q.2.1)),
   (s2 (pr 2 q.2.1 q.2.2.2) (pr (-2) q.1 q.2.2.1),s2 (pr 2 q.2.2.1 q.2.2.2) (pr 2 q.1 q.2.1),s4 (pr 1 q.1 q.1) (pr (-1) q.2.1 q.2.1) (pr (-1) q.2.2.1 q.2.2.1) (pr 1 q.2.2.2 q.2.2.2)))
def tr (m:M9):M9:=((m.1.1,m.2.1.1,m.2.2.1),(m.1.2.1,m.2.1.2.1,m.2.2.2.1),(m.1.2.2,m.2.1.2.2,m.2.2.2.2))
def dot (a v:R3):Rat:=((((0:Int):Rat)+a.1*v.1)+a.2.1*v.2.1)+a.2.2*v.2.2
def tim (m:M9) (v:R3):R3:=(dot m.1 v,dot m.2.1 v,dot m.2.2 v)
def hqV (v:R3) (k:Nat):Prop:=hq v.1≤k∧hq v.2.1≤k∧hq v.2.2≤k
def hqMt (m:M9) (k:Nat):Prop:=hqV m.1 k∧hqV m.2.1 k∧hqV m.2.2 k
theorem pr_hq {n x y:Int} (hn: -2≤n∧n≤2) (hx: -4724464025600000≤x∧x≤4724464025600000) (hy: -4724464025600000≤y∧y≤4724464025600000):hq (pr n x y)≤9:=
  hqM (hqI (by omega) (by omega)) (hqM (hqI (by omega) (by omega)) (hqI (by omega) (by omega)))
theorem s4_hq {a b c d:Rat} (h1:hq a≤9) (h2:hq b≤9) (h3:hq c≤9) (h4:hq d≤9):hq (s4 a b c d)≤50:=Nat.le_trans (hqA (hqA (hqA (hqA hq0 h1) h2) h3) h4) (by decide)
theorem s2_hq {a b:Rat} (h1:hq a≤9) (h2:hq b≤9):hq (s2 a b)≤50:=Nat.le_trans (hqA (hqA hq0 h1) h2) (by decide)
theorem mat_hq {q:Q4} (h:sm q):hqMt (mat q) 50:=by
  obtain ⟨a,b,c,d⟩:=h
  refine ⟨⟨s4_hq ?_ ?_ ?_ ?_,s2_hq ?_ ?_,s2_hq ?_ ?_⟩,⟨s2_hq ?_ ?_,s4_hq ?_ ?_ ?_ ?_,s2_hq ?_ ?_⟩,⟨s2_hq ?_ ?_,s2_hq ?_ ?_,s4_hq ?_ ?_ ?_ ?_⟩⟩ <;> exact pr_hq (by decide) (by assumption) (by assumption)
theorem dot_hq {a v:R3} {k:Nat} (h:hqV a 50) (hv:hqV v k):hq (dot a v)≤3*k+156:=
  Nat.le_trans (hqA (hqA (hqA hq0 (hqM h.1 hv.1)) (hqM h.2.1 hv.2.1)) (hqM h.2.2 hv.2.2)) (by omega)
theorem tim_hq {m:M9} {v:R3} {k:Nat} (h:hqMt m 50) (hv:hqV v k):hqV (tim m v) (3*k+156):=⟨dot_hq h.1 hv,dot_hq h.2.1 hv,dot_hq h.2.2 hv⟩
def pk:Bool→M9→M9
  |true,m=>tr m
  |false,m=>m
theorem tr_hq {m:M9} {k:Nat} (h:hqMt m k):hqMt (tr m) k:=⟨⟨h.1.1,h.2.1.1,h.2.2.1⟩,⟨h.1.2.1,h.2.1.2.1,h.2.2.2.1⟩,⟨h.1.2.2,h.2.1.2.2,h.2.2.2.2⟩⟩
theorem pk_hq {b:Bool} {m:M9} {k:Nat} (h:hqMt m k):hqMt (pk b m) k:=by cases b;exact h;exact tr_hq h
def cam (c:C):Prop:=(1≤c.fo∧c.fo≤1048576)∧(-1048576≤c.cx∧c.cx≤1048576)∧(-1048576≤c.cy∧c.cy≤1048576)
instance (c:C):Decidable (cam c):=by unfold cam;infer_instance
def inb (z:Int):Prop:= -1048576≤z∧z≤1048576
instance (z:Int):Decidable (inb z):=by unfold inb;infer_instance
def inr (r:Int):Prop:=0≤r∧r<64
instance (r:Int):Decidable (inr r):=by unfold inr;infer_instance
def ro (v:Int):Int:=v / 64
def gv (c:C) (u v:Int):R3:=(((u - c.cx:Int):Rat),((v - c.cy:Int):Rat),((c.fo:Int):Rat))
def gd (s:S) (c:C) (u v:Int):R3:=tim (mat (rot s (ro v))) (gv c u v)
def gk (s:S) (c:C) (u v h:Int):Rat:=(((h:Int):Rat) - (pos s (ro v)).2.2) / (gd s c u v).2.2
def gc (s:S) (c:C) (u v h:Int):Int:=
  if z4 (rot s (ro v)) then 13 else if (gd s c u v).2.2=0 then 13 else if gk s c u v h≤0 then 20 else 0
def gx (s:S) (c:C) (u v h:Int):Rat:=if gc s c u v h=0 then (pos s (ro v)).1+gk s c u v h*(gd s c u v).1 else 0
def gy (s:S) (c:C) (u v h:Int):Rat:=if gc s c u v h=0 then (pos s (ro v)).2.1+gk s c u v h*(gd s c u v).2.1 else 0
def iv (s:S) (r:Int) (x y:Rat) (h:Int):R3:=(x - (pos s r).1,y - (pos s r).2.1,((h:Int):Rat) - (pos s r).2.2)
def id (s:S) (r:Int) (x y:Rat) (h:Int):R3:=tim (tr (mat (rot s r))) (iv s r x y h)
def ic (s:S) (r:Int) (x y:Rat) (h:Int):Int:=if z4 (rot s r) then 13 else if (id s r x y h).2.2≤0 then 20 else 0
def ix (s:S) (c:C) (r:Int) (x y:Rat) (h:Int):Rat:=if ic s r x y h=0 then ((c.cx:Int):Rat)+(((c.fo:Int):Rat)*(id s r x y h).1) / (id s r x y h).2.2 else 0
def iy (s:S) (c:C) (r:Int) (x y:Rat) (h:Int):Rat:=if ic s r x y h=0 then ((c.cy:Int):Rat)+(((c.fo:Int):Rat)*(id s r x y h).2.1) / (id s r x y h).2.2 else 0
theorem gv_hq {c:C} (hc:cam c) {u v:Int} (hu:inb u) (hv:inb v):hqV (gv c u v) 3:=by
  unfold cam at hc;unfold inb at hu hv
  exact ⟨hqI (by omega) (by omega),hqI (by omega) (by omega),hqI (by omega) (by omega)⟩
theorem gd_hq {s:S} (h:Ok s) {c:C} (hc:cam c) {u v:Int} (hu:inb u) (hv:inb v) (hr:inr (ro v)):hqV (gd s c u v) 165:=
  tim_hq (mat_hq (rot_b h ⟨hr.1,Int.le_of_lt hr.2⟩)) (gv_hq hc hu hv)
theorem gk_hq {s:S} (h:Ok s) {c:C} (hc:cam c) {u v z:Int} (hu:inb u) (hv:inb v) (hr:inr (ro v)) (hz:inb z):hq (gk s c u v z)≤182:=by
  unfold inb at hz
  exact hqD (hqS (hqI (by omega) (by omega)) (pos_hq h ⟨hr.1,Int.le_of_lt hr.2⟩).2.2) (gd_hq h hc hu hv hr).2.2
theorem gx_hq {s:S} (h:Ok s) {c:C} (hc:cam c) {u v z:Int} (hu:inb u) (hv:inb v) (hr:inr (ro v)) (hz:inb z):hq (gx s c u v z)≤400∧hq (gy s c u v z)≤400:=by
  have a:=hqA (pos_hq h ⟨hr.1,Int.le_of_lt hr.2⟩).1 (hqM (gk_hq h hc hu hv hr hz) (gd_hq h hc hu hv hr).1)
  have b:=hqA (pos_hq h ⟨hr.1,Int.le_of_lt hr.2⟩).2.1 (hqM (gk_hq h hc hu hv hr hz) (gd_hq h hc hu hv hr).2.1)
  constructor
  · unfold gx; split
    · omega
    · rw [hq_zero];decide
  · unfold gy; split
    · omega
    · rw [hq_zero];decide
theorem iv_hq {s:S} (h:Ok s) {r:Int} (hr:inr r) {x y:Rat} (hx:hq x≤400) (hy:hq y≤400) {z:Int} (hz:inb z):hqV (iv s r x y z) 414:=by
  have p:=pos_hq h ⟨hr.1,Int.le_of_lt hr.2⟩
  unfold inb at hz
  exact ⟨hqS hx p.1,hqS hy p.2.1,Nat.le_trans (hqS (hqI (by omega) (by omega)) p.2.2) (by decide)⟩
theorem id_hq {s:S} (h:Ok s) {r:Int} (hr:inr r) {x y:Rat} (hx:hq x≤400) (hy:hq y≤400) {z:Int} (hz:inb z):hqV (id s r x y z) 1398:=
  tim_hq (tr_hq (mat_hq (rot_b h ⟨hr.1,Int.le_of_lt hr.2⟩))) (iv_hq h hr hx hy hz)
theorem ix_hq {s:S} (h:Ok s) {c:C} (hc:cam c) {r:Int} (hr:inr r) {x y:Rat} (hx:hq x≤400) (hy:hq y≤400) {z:Int} (hz:inb z):hq (ix s c r x y z)≤3000∧hq (iy s c r x y z)≤3000:=by
  have d:=id_hq h hr hx hy hz
  unfold cam at hc
  have a:=hqA (hqI (z:=c.cx) (by omega) (by omega)) (hqD (hqM (hqI (z:=c.fo) (by omega) (by omega)) d.1) d.2.2)
  have b:=hqA (hqI (z:=c.cy) (by omega) (by omega)) (hqD (hqM (hqI (z:=c.fo) (by omega) (by omega)) d.2.1) d.2.2)
  constructor
  · unfold ix; split
    · omega
    · rw [hq_zero];decide
  · unfold iy; split
    · omega
    · rw [hq_zero];decide
def cp (c:C) (u v h:Int):Prop:=cam c∧inb u∧inb v∧inb h∧inr (ro v)
instance (c:C) (u v h:Int):Decidable (cp c u v h):=by unfold cp;infer_instance
def Gc (s:S) (c:C) (u v h:Int):Int:=if chk s 1=0 then (if cp c u v h then gc s c u v h else 2) else chk s 1
def Gx (s:S) (c:C) (u v h:Int):Rat:=if Gc s c u v h=0 then gx s c u v h else 0
def Gy (s:S) (c:C) (u v h:Int):Rat:=if Gc s c u v h=0 then gy s c u v h else 0
def cr (c:C) (r h:Int):Prop:=inr r∧cam c∧inb h
instance (c:C) (r h:Int):Decidable (cr c r h):=by unfold cr;infer_instance
def Cc (s:S) (c:C) (u v r h:Int):Int:=if chk s 1=0 then (if inr r∧cp c u v h then (if gc s c u v h=0 then ic s r (gx s c u v h) (gy s c u v h) h else gc s c u v h) else 2) else chk s 1
def Cx (s:S) (c:C) (u v r h:Int):Rat:=if Cc s c u v r h=0 then ix s c r (gx s c u v h) (gy s c u v h) h else 0
def Cy (s:S) (c:C) (u v r h:Int):Rat:=if Cc s c u v r h=0 then iy s c r (gx s c u v h) (gy s c u v h) h else 0
theorem wi_get {m:Int} {l:List Int} (h:∀j,j<l.length→ -m≤l.getD j 0∧l.getD j 0≤m):wi m l:=fun x hx=>by
  obtain ⟨j,hj,e⟩:=List.getElem_of_mem hx
  have:=h j hj
  rwa [List.getD_eq_getElem?_getD,List.getElem?_eq_getElem hj,Option.getD_some,e] at this
theorem wi_not {m:Int} {l:List Int} {j:Nat} (hj:j<l.length) (h:l.getD j 0< -m∨m<l.getD j 0):¬wi m l:=fun k=>by
  have:=k (l.getD j 0) (by rw [List.getD_eq_getElem?_getD,List.getElem?_eq_getElem hj,Option.getD_some];exact List.getElem_mem hj)
  omega
theorem chk_1 {s:S} {n:Int} (h:n<1∨64<n∨¬okN s):chk s n=2:=by unfold chk;rw [if_pos h]
theorem chk_2 {s:S} {n:Int} (h1:¬(n<1∨64<n∨¬okN s)) (h:¬okA s):chk s n=2:=by unfold chk;rw [if_neg h1,if_pos h]
theorem chk_3 {s:S} {n:Int} (h1:¬(n<1∨64<n∨¬okN s)) (h2:okA s) (h:¬okB s):chk s n=2:=by unfold chk;rw [if_neg h1,if_neg (fun k=>k h2),if_pos h]
theorem chk_4 {s:S} {n:Int} (h1:¬(n<1∨64<n∨¬okN s)) (h2:okA s) (h3:okB s) (h:z4 (qA s)∨z4 (qB s)∨s.tb≤s.ta):chk s n=1:=by unfold chk;rw [if_neg h1,if_neg (fun k=>k h2),if_neg (fun k=>k h3),if_pos h]
theorem chk_5 {s:S} {n:Int} (h1:¬(n<1∨64<n∨¬okN s)) (h2:okA s) (h3:okB s) (h4:¬(z4 (qA s)∨z4 (qB s)∨s.tb≤s.ta)) (h:dgn s n.toNat):chk s n=13:=by unfold chk;rw [if_neg h1,if_neg (fun k=>k h2),if_neg (fun k=>k h3),if_neg h4,if_pos h]
theorem chk_6 {s:S} {n:Int} (h1:¬(n<1∨64<n∨¬okN s)) (h2:okA s) (h3:okB s) (h4:¬(z4 (qA s)∨z4 (qB s)∨s.tb≤s.ta)) (h:¬dgn s n.toNat):chk s n=0:=by unfold chk;rw [if_neg h1,if_neg (fun k=>k h2),if_neg (fun k=>k h3),if_neg h4,if_neg h]
theorem gcd_step {x y g:Nat} (h:Nat.gcd x y=g):Nat.gcd y (x%y)=g:=by rw [← h,Nat.gcd_comm y,←Nat.gcd_rec,Nat.gcd_comm]
end Go.Proofs.YtjeahiahjgifgaaGreatDoor.Sh
namespace Go.Proofs.YtjeahiahjgifgaaGreatDoor.Sp
open Go
def cS (s:Sh.S):List Value:=[.int .i64 s.fi,.int .i64 s.st,.int .i64 s.ta,.int .i64 s.xa,.int .i64 s.ya,.int .i64 s.za,.int .i64 s.qa,.int .i64 s.qb,.int .i64 s.qc,.int .i64 s.qd,.int .i64 s.tb,.int .i64 s.xb,.int .i64 s.yb,.int .i64 s.zb,.int .i64 s.ra,.int .i64 s.rb,.int .i64 s.rc,.int .i64 s.rd]
end Go.Proofs.YtjeahiahjgifgaaGreatDoor.Sp
namespace Go.Proofs.YtjeahiahjgifgaaGreatDoor.Sp
open Go
set_option linter.unusedVariables false
set_option maxRecDepth 100000
set_option maxHeartbeats 8000000
theorem zmb {p:Option Addr} {n:Nat} {cap:Nat} {l:List Int} {m:Int} (hn:l.length=n) (hm:0≤m∧m≤4611686018427387904):Con ym 42 [yc yd m,.slice p n cap] [] [slF (rI .i64) p cap l] (Y:=Unit) (fun y=>True) (fun y=> .bool (decide (Sh.wi m l))) (fun y=>[]) (fun y=>[]):=by
 refine zx Tryz.func42 rfl rfl rfl (fun c=> ?_)
 show RunC _ _ _ _ _ [(0,yc yd m),(1,.slice p n cap)] [] [slF (rI .i64) p cap l]
 refine zpa 0 rfl (fun hL0=> ?_)
 refine zj<|zc<|e_p (zh rfl)<|zk<|zf<|zj<|zj<|zc<|e_mv rfl<|e_p (zea yq rfl)<|e_mv rfl<|zk<|zf<|zu<|zza (X:=Nat) (fun x:Nat=>x≤n∧∀j,j<x→ -m≤l.getD j 0∧l.getD j 0≤m) (fun x=>[(9,yc yd ((x:Nat):Int)),(8,yc yd ((n:Nat):Int)),(7,.slice p n cap),(0,yc yd m)]) (fun x=>[]) (fun x=>[slF (rI .i64) p cap l]) (fun x:Nat=>n - x) 0 (show 0≤n∧∀j,j<0→ -m≤l.getD j 0∧l.getD j 0≤m from by exact ⟨Nat.zero_le _,fun j h=>by omega⟩) ((.e rfl (by first|rfl|(congr 1;omega)|simp_all) (.of rfl)):SubM _ _) (ho:=(.n:PickO _ _ _)) ((.c (j:=0) rfl .n):SelR _ _ _) ?_
 rintro i hI
 replace hI:i≤n∧∀j,j<i→ -m≤l.getD j 0∧l.getD j 0≤m:=hI
 try dsimp only
 obtain ⟨hi,hall⟩:=hI
 refine zj<|zc<|e_p (zS rfl rfl)<|zk<|zf<|zj<|zT rfl (fun h1=> ?_) (fun h1=> ?_)
 ·
  refine zB<|zf<|zj<|zu<|zj<|zc<|zP (x0:=(l.getD i 0)) 0 i rfl yq sz3 rfl rfl rfl cbs rfl rfl (gD (d:=0) om) (fun b2 o3 hok4=> ?_)
  replace hok4:=zt.1 hok4
  refine e_ru (zA (j:=0) 0 ty3 rfl rfl rfl rfl)<|e_p (zh rfl)<|zk<|zf<|zIa (X:=Unit) (fun x=>True) (fun x=>[(21,.bool (decide (((l.getD i 0)<(-m))∨(m<(l.getD i 0))))),(9,yc yd ((i:Nat):Int)),(8,yc yd ((n:Nat):Int)),(7,.slice p n cap),(0,yc yd m)]) (fun x=>[]) (fun x=>[atF b2 o3 [yc yd (l.getD i 0)],slF (rI .i64) p cap l]) ?_ ?_
  ·
   refine zc<|e_mv rfl<|e_mv rfl<|e_p (zhc (z:=(-m)) rfl (w64 om))<|e_p (zS rfl rfl)<|zsa rfl rfl (zva rfl) (fun h5=> ?_) (fun h5=> ?_)
   ·
    refine e_no<|e_no<|e_no<|e_p (zU rfl rfl)<|zk ?_
    exact zna () (show True from by first|trivial|omega|simp_all) ((.e rfl (congrArg Value.bool cbu) (.of rfl)):SubM _ _) (ho:=(.n:PickO _ _ _)) ((.of [0,1] rfl):SelR _ _ _)
   ·
    refine e_mv rfl<|e_mv rfl<|e_p (zZa rfl rfl)<|e_p (zU rfl rfl)<|zk ?_
    exact zna () (show True from by first|trivial|omega|simp_all) ((.e rfl (congrArg Value.bool cbu) (.of rfl)):SubM _ _) (ho:=(.n:PickO _ _ _)) ((.of [0,1] rfl):SelR _ _ _)
  ·
   rintro ⟨⟩ -
   try dsimp only
   refine zT rfl (fun hb=> ?_) (fun hb=> ?_)
   ·
    refine zj<|zc<|e_p (zh rfl)<|zk<|zf<|zR<|zca<|zq<|zq<|zca<|zq ?_
    exact zL Tryz.results42 () trivial (zD rfl) (congrArg Value.bool (decide_eq_false (Sh.wi_not (j:=i) om hb))) (ho:=(.n:PickO _ _ _)) (.n:SelR _ _ _)
   ·
    refine zB<|zK<|zf<|zc<|e_p (zI (z:=(((i+1):Nat):Int)) rfl rfl (w64 om))<|e_mv rfl<|zk<|zwa (i+1) (show (i+1)≤n∧∀j,j<(i+1)→ -m≤l.getD j 0∧l.getD j 0≤m from by refine ⟨by omega,fun j hj=> ?_⟩;by_cases e:j=i;(subst e;omega);exact hall j om) (by show n - (i+1)<n - i;omega) ((.of rfl):SubM _ _) (ho:=(.n:PickO _ _ _)) ((.c (j:=1) rfl .n):SelR _ _ _)
 ·
  refine zla<|zn<|zn<|zC<|zf<|zj<|zc<|e_p (zh rfl)<|zk<|zf<|zR ?_
  exact zL Tryz.results42 () trivial (zD rfl) (congrArg Value.bool (decide_eq_true (Sh.wi_get (fun j hj=>hall j om)))) (ho:=(.n:PickO _ _ _)) (.n:SelR _ _ _)
theorem zGb {p:Option Addr} {n:Nat} {cap:Nat} {l:List Int} {m:Int} (hn:l.length=n) (hm:0≤m∧m≤4611686018427387904):Con ym 23 [yc yd m,.slice p n cap] [] [slF (rI .i64) p cap l] (Y:=Unit) (fun y=>True) (fun y=> .bool (decide (Sh.wi m l))) (fun y=>[]) (fun y=>[]):=by
 refine zx Tryz.func23 rfl rfl rfl (fun c=> ?_)
 show RunC _ _ _ _ _ [(0,yc yd m),(1,.slice p n cap)] [] [slF (rI .i64) p cap l]
 refine zpa 0 rfl (fun hL0=> ?_)
 refine zj<|zc<|e_p (zh rfl)<|zk<|zf<|zj<|zj<|zc<|e_mv rfl<|e_p (zea yq rfl)<|e_mv rfl<|zk<|zf<|zu<|zza (X:=Nat) (fun x:Nat=>x≤n∧∀j,j<x→ -m≤l.getD j 0∧l.getD j 0≤m) (fun x=>[(9,yc yd ((x:Nat):Int)),(8,yc yd ((n:Nat):Int)),(7,.slice p n cap),(0,yc yd m)]) (fun x=>[]) (fun x=>[slF (rI .i64) p cap l]) (fun x:Nat=>n - x) 0 (show 0≤n∧∀j,j<0→ -m≤l.getD j 0∧l.getD j 0≤m from by exact ⟨Nat.zero_le _,fun j h=>by omega⟩) ((.e rfl (by first|rfl|(congr 1;omega)|simp_all) (.of rfl)):SubM _ _) (ho:=(.n:PickO _ _ _)) ((.c (j:=0) rfl .n):SelR _ _ _) ?_
 rintro i hI
 replace hI:i≤n∧∀j,j<i→ -m≤l.getD j 0∧l.getD j 0≤m:=hI
 try dsimp only
 obtain ⟨hi,hall⟩:=hI
 refine zj<|zc<|e_p (zS rfl rfl)<|zk<|zf<|zj<|zT rfl (fun h1=> ?_) (fun h1=> ?_)
 ·
  refine zB<|zf<|zj<|zu<|zj<|zc<|zP (x0:=(l.getD i 0)) 0 i rfl yq sz3 rfl rfl rfl cbs rfl rfl (gD (d:=0) om) (fun b2 o3 hok4=> ?_)
  replace hok4:=zt.1 hok4
  refine e_ru (zA (j:=0) 0 ty3 rfl rfl rfl rfl)<|e_p (zh rfl)<|zk<|zf<|zIa (X:=Unit) (fun x=>True) (fun x=>[(21,.bool (decide (((l.getD i 0)<(-m))∨(m<(l.getD i 0))))),(9,yc yd ((i:Nat):Int)),(8,yc yd ((n:Nat):Int)),(7,.slice p n cap),(0,yc yd m)]) (fun x=>[]) (fun x=>[atF b2 o3 [yc yd (l.getD i 0)],slF (rI .i64) p cap l]) ?_ ?_
  ·
   refine zc<|e_mv rfl<|e_mv rfl<|e_p (zhc (z:=(-m)) rfl (w64 om))<|e_p (zS rfl rfl)<|zsa rfl rfl (zva rfl) (fun h5=> ?_) (fun h5=> ?_)
   ·
    refine e_no<|e_no<|e_no<|e_p (zU rfl rfl)<|zk ?_
    exact zna () (show True from by first|trivial|omega|simp_all) ((.e rfl (congrArg Value.bool cbu) (.of rfl)):SubM _ _) (ho:=(.n:PickO _ _ _)) ((.of [0,1] rfl):SelR _ _ _)
   ·
    refine e_mv rfl<|e_mv rfl<|e_p (zZa rfl rfl)<|e_p (zU rfl rfl)<|zk ?_
    exact zna () (show True from by first|trivial|omega|simp_all) ((.e rfl (congrArg Value.bool cbu) (.of rfl)):SubM _ _) (ho:=(.n:PickO _ _ _)) ((.of [0,1] rfl):SelR _ _ _)
  ·
   rintro ⟨⟩ -
   try dsimp only
   refine zT rfl (fun hb=> ?_) (fun hb=> ?_)
   ·
    refine zj<|zc<|e_p (zh rfl)<|zk<|zf<|zR<|zca<|zq<|zq<|zca<|zq ?_
    exact zL Tryz.results23 () trivial (zD rfl) (congrArg Value.bool (decide_eq_false (Sh.wi_not (j:=i) om hb))) (ho:=(.n:PickO _ _ _)) (.n:SelR _ _ _)
   ·
    refine zB<|zK<|zf<|zc<|e_p (zI (z:=(((i+1):Nat):Int)) rfl rfl (w64 om))<|e_mv rfl<|zk<|zwa (i+1) (show (i+1)≤n∧∀j,j<(i+1)→ -m≤l.getD j 0∧l.getD j 0≤m from by refine ⟨by omega,fun j hj=> ?_⟩;by_cases e:j=i;(subst e;omega);exact hall j om) (by show n - (i+1)<n - i;omega) ((.of rfl):SubM _ _) (ho:=(.n:PickO _ _ _)) ((.c (j:=1) rfl .n):SelR _ _ _)
 ·
  refine zla<|zn<|zn<|zC<|zf<|zj<|zc<|e_p (zh rfl)<|zk<|zf<|zR ?_
  exact zL Tryz.results23 () trivial (zD rfl) (congrArg Value.bool (decide_eq_true (Sh.wi_get (fun j hj=>hall j om)))) (ho:=(.n:PickO _ _ _)) (.n:SelR _ _ _)
theorem zlb {ea:Int} {eb:Int} {ec:Int} {ed:Int}:Con ym 73 [.agg #[yc yd ea,yc yd eb,yc yd ec,yc yd ed]] [] [] (Y:=Unit) (fun y=>True) (fun y=> .agg #[yc yd ea,yc yd eb,yc yd ec,yc yd ed]) (fun y=>[]) (fun y=>[]):=by
 refine zx Tryz.func73 rfl rfl rfl (fun c=> ?_)
 show RunC _ _ _ _ _ [(0,.agg #[yc yd ea,yc yd eb,yc yd ec,yc yd ed])] [] []
 refine zj<|zc<|zJ rfl rfl (zda rfl rfl) (fun b1=> ?_)
 refine zJ rfl rfl (zp zr113 rfl) (fun b2=> ?_)
 refine zk<|zf<|zj<|zc<|e_p (zg yl rfl sz3 rfl rfl)<|e_ru (ze 1 ty3 rfl rfl rfl)<|e_p (zg yl rfl sz3 rfl rfl)<|e_ru (ze 1 ty3 rfl rfl rfl)<|e_p (zg yl rfl sz3 rfl rfl)<|e_ru (ze 1 ty3 rfl rfl rfl)<|e_p (zg yl rfl sz3 rfl rfl)<|e_ru (ze 1 ty3 rfl rfl rfl)<|e_p (zTa zr113 rfl yi sz3 (.c rfl (.c rfl (.c rfl (.c rfl .n)))) (.c rfl rfl rfl (.take .nil) (.c rfl rfl rfl (.skip (.take .nil)) (.c rfl rfl rfl (.s2 (.take .nil)) (.c rfl rfl rfl (.s2 (.skip (.take .nil))) .n)))))<|zl 0 rfl rfl rfl rfl rfl sz113 rfl (.t4 .nil) .z<|zk<|zf<|zR ?_
 exact zL Tryz.results73 () trivial (zr 0 ty113 rfl rfl (.t4 .nil)) rfl (ho:=(.n:PickO _ _ _)) (.n:SelR _ _ _)
theorem zgd {r:Int}:Con ym 44 [yc yd r] [] [] (Y:=Unit) (fun y=>True) (fun y=> .bool (decide (0≤r∧r<64))) (fun y=>[]) (fun y=>[]):=by
 refine zx Tryz.func44 rfl rfl rfl (fun c=> ?_)
 show RunC _ _ _ _ _ [(0,yc yd r)] [] []
 refine zj<|zc<|e_p (zh rfl)<|zk<|zf<|zIa (X:=Unit) (fun x=>True) (fun x=>[(2,.bool (decide ((0≤r)∧(r<64))))]) (fun x=>[]) (fun x=>[]) ?_ ?_
 ·
  refine zc<|e_mv rfl<|e_p (zpb rfl rfl)<|zsa rfl rfl (zva rfl) (fun h1=> ?_) (fun h1=> ?_)
  ·
   refine e_mv rfl<|e_p (zS rfl rfl)<|e_p (zU rfl rfl)<|e_p (zh rfl)<|zk ?_
   exact zna () (show True from by first|trivial|omega|simp_all) ((.e rfl (congrArg Value.bool cbu) .n):SubM _ _) (ho:=(.n:PickO _ _ _)) (.n:SelR _ _ _)
  ·
   refine e_no<|e_no<|e_p (zU rfl rfl)<|e_p (zh rfl)<|zk ?_
   exact zna () (show True from by first|trivial|omega|simp_all) ((.e rfl (congrArg Value.bool cbu) .n):SubM _ _) (ho:=(.n:PickO _ _ _)) (.n:SelR _ _ _)
 ·
  rintro ⟨⟩ -
  try dsimp only
  refine zR ?_
  exact zL Tryz.results44 () trivial (zD rfl) rfl (ho:=(.n:PickO _ _ _)) (.n:SelR _ _ _)
theorem zId {u:Int} {v:Int}:Con ym 74 [.agg #[yc yd u,yc yd v]] [] [] (Y:=Unit) (fun y=>True) (fun y=> yc yd (Sh.ro v)) (fun y=>[]) (fun y=>[]):=by
 refine zx Tryz.func74 rfl rfl rfl (fun c=> ?_)
 show RunC _ _ _ _ _ [(0,.agg #[yc yd u,yc yd v])] [] []
 refine zj<|zc<|zJ rfl rfl (zda rfl rfl) (fun b1=> ?_)
 refine e_p (zh rfl)<|zk<|zf<|zj<|zc<|e_p (zg Tryz.underlying35 rfl sz3 rfl rfl)<|e_ru (ze 0 ty3 rfl rfl rfl)<|e_p (pv_shr (z:=(v / 64)) rfl rfl dd rfl)<|e_p (zh rfl)<|zk<|zf<|zR ?_
 exact zL Tryz.results74 () trivial (zD rfl) rfl (ho:=(.n:PickO _ _ _)) (.n:SelR _ _ _)
end Go.Proofs.YtjeahiahjgifgaaGreatDoor.Sp
namespace Go.Proofs.YtjeahiahjgifgaaGreatDoor.Sp
open Go
set_option linter.unusedVariables false
set_option maxRecDepth 100000
set_option maxHeartbeats 8000000
theorem zRb {s:Sh.S} {r:Int} (hok:Sh.Ok s) (hr:0≤r∧r≤64):Con ym 43 [.agg #[yc yd (s.fi),yc yd (s.st),yc yd (s.ta),yc yd (s.xa),yc yd (s.ya),yc yd (s.za),yc yd (s.qa),yc yd (s.qb),yc yd (s.qc),yc yd (s.qd),yc yd (s.tb),yc yd (s.xb),yc yd (s.yb),yc yd (s.zb),yc yd (s.ra),yc yd (s.rb),yc yd (s.rc),yc yd (s.rd)],yc yd r] [] [] (Y:=Unit) (fun y=>True) (fun y=> .agg #[yc yd ((Sh.rot s r).1),yc yd ((Sh.rot s r).2.1),yc yd ((Sh.rot s r).2.2.1),yc yd ((Sh.rot s r).2.2.2)]) (fun y=>[]) (fun y=>[]):=by
 refine zx Tryz.func43 rfl rfl rfl (fun c=> ?_)
 show RunC _ _ _ _ _ [(0,.agg #[yc yd (s.fi),yc yd (s.st),yc yd (s.ta),yc yd (s.xa),yc yd (s.ya),yc yd (s.za),yc yd (s.qa),yc yd (s.qb),yc yd (s.qc),yc yd (s.qd),yc yd (s.tb),yc yd (s.xb),yc yd (s.yb),yc yd (s.zb),yc yd (s.ra),yc yd (s.rb),yc yd (s.rc),yc yd (s.rd)]),(1,yc yd r)] [] []
 have hn:=hok.n
 have hpa:=hok.pa
 have hpb:=hok.pb
 have hqa:=hok.qa
 have hqb:=hok.qb
 have htm:=Sh.tm_b hok hr
 have hrs: -(64*1073741824)≤r*s.st∧r*s.st≤64*1073741824:=by have h8:=htm;unfold Sh.tm at h8;have h9:=Sh.mul_b (x:=r) (y:=s.st) (m:=64) (n:=1073741824) om om;omega
 have hm0:=Sh.mix_b hok hr hok.qa.1 hok.qb.1
 have hm1:=Sh.mix_b hok hr hok.qa.2.1 hok.qb.2.1
 have hm2:=Sh.mix_b hok hr hok.qa.2.2.1 hok.qb.2.2.1
 have hm3:=Sh.mix_b hok hr hok.qa.2.2.2 hok.qb.2.2.2
 have hrw:=Sh.raw_b hok hr
 refine zj<|zc<|zJ rfl rfl (zda rfl rfl) (fun b1=> ?_)
 refine zJ rfl rfl (zp zr25 rfl) (fun b2=> ?_)
 refine zk<|zf<|zj<|zc<|e_p (zg yk rfl sz3 rfl rfl)<|e_ru (ze 1 ty3 rfl rfl rfl)<|e_mv rfl<|e_p (zg yk rfl sz3 rfl rfl)<|e_ru (ze 1 ty3 rfl rfl rfl)<|e_p (zGa (z:=(r*s.st)) rfl rfl (w64 om))<|e_p (zI (z:=(s.fi+(r*s.st))) rfl rfl (w64 om))<|e_p (zh rfl)<|zk<|zf<|zj ?_
 have e3:s.fi+(r*s.st)=Sh.tm s r:=by rfl
 rw [e3]
 refine zO (OW:=[]) (O:=[boxA b2 25 [yc yd 0,yc yd 0,yc yd 0,yc yd 0],boxA b1 29 (cS s)]) 10 mixed (.then .ret) kr<|e_pv 0 rfl rfl (zg yk rfl sz27 rfl rfl)<|e_pv 1 rfl rfl (zg yh rfl sz25 rfl rfl)<|e_u 2 rfl rfl (zd 1 ty25 rfl rfl (.s4 (.s2 (.t4 .nil))))<|e_pv 4 rfl rfl (zg yk rfl sz27 rfl rfl)<|e_pv 5 rfl rfl (zg yh rfl sz25 rfl rfl)<|e_u 6 rfl rfl (zd 1 ty25 rfl rfl (.s8 (.s4 (.s2 (.t4 .nil)))))<|zAc (m':=[(26,.agg #[yc yd (s.ra),yc yd (s.rb),yc yd (s.rc),yc yd (s.rd)]),(22,.agg #[yc yd (s.qa),yc yd (s.qb),yc yd (s.qc),yc yd (s.qd)]),(5,yc yd (Sh.tm s r)),(4,ye (some ⟨b2,0,none⟩)),(2,ye (some ⟨b1,0,none⟩))]) (R':=[]) ((.of rfl):SubM _ _) (List.Perm.refl _) (List.Perm.refl _) (.n:SelR _ _ _)<|zia (X:=Nat×Nat) (k':=0) (L':=(lb 12 4095)) (fun (u8_1,u9_1)=>([(7,ye (some ⟨u9_1,0,none⟩)),(6,ye (some ⟨u8_1,0,none⟩)),(5,yc yd (Sh.tm s r)),(4,ye (some ⟨b2,0,none⟩)),(2,ye (some ⟨b1,0,none⟩))],[boxA u9_1 113 [yc yd (s.ra),yc yd (s.rb),yc yd (s.rc),yc yd (s.rd)],boxA u8_1 113 [yc yd (s.qa),yc yd (s.qb),yc yd (s.qc),yc yd (s.qd)]],[boxA b2 25 [yc yd 0,yc yd 0,yc yd 0,yc yd 0],boxA b1 29 (cS s)],[])) ?_ (fun hD0=> ?_)
 ·
  rintro ⟨u8_1,u9_1⟩
  dsimp only [cw,cS]
  refine zM kr<|zf<|zj<|zc<|zJ rfl rfl (zp zr113 rfl) (fun b4=> ?_)
  refine zk<|zf<|zj<|zc<|e_p (zh rfl)<|zk<|zf<|zj<|zj<|zc<|e_mv rfl<|zk<|zf<|zu<|zLa<|zW<|zj<|zc<|e_p (zS rfl rfl)<|zk<|zf<|zj<|zaa rfl rfl<|zB<|zf<|zj<|zu<|zj<|zc<|e_mv rfl<|e_p (zh rfl)<|zk<|zf<|zj<|zO (OW:=[boxA b4 113 [yc yd 0,yc yd 0,yc yd 0,yc yd 0]]) (O:=[boxA u9_1 113 [yc yd (s.ra),yc yd (s.rb),yc yd (s.rc),yc yd (s.rd)],boxA u8_1 113 [yc yd (s.qa),yc yd (s.qb),yc yd (s.qc),yc yd (s.qd)],boxA b2 25 [yc yd 0,yc yd 0,yc yd 0,yc yd 0],boxA b1 29 (cS s)]) 21 mixed (.then (.block (.then (.then (.block (.then .ret)))))) kr<|e_dm 0 rfl rfl rfl<|e_pv 1 rfl rfl (zg yk rfl sz27 rfl rfl)<|e_pv 2 rfl rfl (zg yh rfl sz3 rfl rfl)<|e_uw 3 rfl rfl (ze 4 ty3 rfl rfl rfl)<|e_dm 4 rfl rfl rfl<|e_pv 5 rfl rfl (zma (z:=(s.tb - (Sh.tm s r))) rfl rfl (w64 om))<|e_dm 6 rfl rfl rfl<|e_pv 7 rfl rfl (zi (i:=0) yi sz3 rfl rfl dd rfl)<|e_uw 8 rfl rfl (ze 2 ty3 rfl rfl rfl)<|e_pv 9 rfl rfl (zGa (z:=((s.tb - (Sh.tm s r))*s.qa)) rfl rfl (w64 om))<|e_dm 10 rfl rfl rfl<|e_pv 11 rfl rfl (zg yk rfl sz27 rfl rfl)<|e_pv 12 rfl rfl (zg yh rfl sz3 rfl rfl)<|e_uw 13 rfl rfl (ze 4 ty3 rfl rfl rfl)<|e_pv 14 rfl rfl (zma (z:=((Sh.tm s r) - s.ta)) rfl rfl (w64 om))<|e_dm 15 rfl rfl rfl<|e_pv 16 rfl rfl (zi (i:=0) yi sz3 rfl rfl dd rfl)<|e_uw 17 rfl rfl (ze 1 ty3 rfl rfl rfl)<|e_pv 18 rfl rfl (zGa (z:=(((Sh.tm s r) - s.ta)*s.ra)) rfl rfl (w64 om))<|e_pv 19 rfl rfl (zI (z:=(((s.tb - (Sh.tm s r))*s.qa)+(((Sh.tm s r) - s.ta)*s.ra))) rfl rfl (w64 om))<|e_pv 20 rfl rfl (zi (i:=0) yi sz3 rfl rfl dd rfl)<|e_one 21 (zo kr rfl rfl rfl rfl rfl sz3 rfl (.take .nil) ?_)
  refine zM kr<|zf<|zj ?_
  have e5:((s.tb - (Sh.tm s r))*s.qa)+(((Sh.tm s r) - s.ta)*s.ra)=(Sh.raw s r).1:=by rfl
  rw [e5]
  refine zO (OW:=[]) (O:=[boxA b4 113 [yc yd ((Sh.raw s r).1),yc yd 0,yc yd 0,yc yd 0],boxA u9_1 113 [yc yd (s.ra),yc yd (s.rb),yc yd (s.rc),yc yd (s.rd)],boxA u8_1 113 [yc yd (s.qa),yc yd (s.qb),yc yd (s.qc),yc yd (s.qd)],boxA b2 25 [yc yd 0,yc yd 0,yc yd 0,yc yd 0],boxA b1 29 (cS s)]) 100000 mixed (.then (.block (.then (.then (.block (.then .ret)))))) kr<|e_dm 0 rfl rfl rfl<|e_dm 1 rfl rfl rfl<|e_pv 2 rfl rfl (zi (i:=0) yi sz3 rfl rfl dd rfl)<|e_u 3 rfl rfl (ze 0 ty3 rfl rfl rfl)<|e_dm 4 rfl rfl rfl<|e_pv 5 rfl rfl (zi (i:=0) yi sz3 rfl rfl dd rfl)<|e_u 6 rfl rfl (ze 0 ty3 rfl rfl rfl)<|e_pv 7 rfl rfl (zhc (z:=(-((Sh.raw s r).1))) rfl (w64 om))<|e_pv 8 rfl rfl (zzd rfl rfl)<|e_pv 9 rfl rfl (zh rfl)<|e_pv 10 rfl rfl (zh rfl)<|zM kr<|zf<|zu ?_
  have e6:((max ((Sh.raw s r).1) (-((Sh.raw s r).1))):Int)=((((Sh.raw s r).1).natAbs:Nat):Int):=by omega
  rw [e6]
  obtain ⟨gg,hgg⟩:∃z:Nat,z=(Nat.gcd 0 (((Sh.raw s r).1).natAbs)):=⟨_,rfl⟩
  refine zza (X:=Nat×Nat) (fun x:Nat×Nat=>Nat.gcd x.1 x.2=gg) (fun x=>[(12,yc yd ((x.2:Nat):Int)),(11,yc yd ((x.1:Nat):Int)),(60,yc yd ((((Sh.raw s r).1).natAbs:Nat):Int)),(59,yc yd (-((Sh.raw s r).1))),(58,yc yd ((Sh.raw s r).1)),(57,ye (some ⟨b4,0,none⟩)),(56,yc yd 0),(55,yc yd ((Sh.raw s r).1)),(54,ye (some ⟨b4,0,none⟩)),(53,yc yd 0),(52,yc yd 0),(51,ye (some ⟨b4,0,none⟩)),(50,yc yd ((Sh.raw s r).1)),(49,yc yd (((Sh.tm s r) - s.ta)*s.ra)),(48,yc yd (s.ra)),(47,ye (some ⟨u9_1,0,none⟩)),(46,yc yd 0),(45,yc yd ((Sh.tm s r) - s.ta)),(44,yc yd (s.ta)),(43,ye (some ⟨b1,2,none⟩)),(42,ye (some ⟨b1,2,none⟩)),(41,yc yd (Sh.tm s r)),(40,yc yd ((s.tb - (Sh.tm s r))*s.qa)),(39,yc yd (s.qa)),(38,ye (some ⟨u8_1,0,none⟩)),(37,yc yd 0),(36,yc yd (s.tb - (Sh.tm s r))),(35,yc yd (Sh.tm s r)),(34,yc yd (s.tb)),(33,ye (some ⟨b1,10,none⟩)),(32,ye (some ⟨b1,10,none⟩)),(31,yc yd 0),(10,yc yd 0),(30,yc yd 0),(29,.bool true),(28,yc yd 0),(8,ye (some ⟨b4,0,none⟩)),(7,ye (some ⟨u9_1,0,none⟩)),(6,ye (some ⟨u8_1,0,none⟩)),(5,yc yd (Sh.tm s r)),(4,ye (some ⟨b2,0,none⟩)),(2,ye (some ⟨b1,0,none⟩))]) (fun x=>[boxA b4 113 [yc yd ((Sh.raw s r).1),yc yd 0,yc yd 0,yc yd 0],boxA u9_1 113 [yc yd (s.ra),yc yd (s.rb),yc yd (s.rc),yc yd (s.rd)],boxA u8_1 113 [yc yd (s.qa),yc yd (s.qb),yc yd (s.qc),yc yd (s.qd)],boxA b2 25 [yc yd 0,yc yd 0,yc yd 0,yc yd 0],boxA b1 29 (cS s)]) (fun x=>[]) (fun x:Nat×Nat=>x.2) (0,((Sh.raw s r).1).natAbs) (show Nat.gcd 0 (((Sh.raw s r).1).natAbs)=gg from by exact hgg.symm) ((.c rfl (.e rfl (by first|rfl|(congr 1;omega)|simp_all) (.of rfl))):SubM _ _) (ho:=((.of [0,0,0,0,0] rfl):PickO _ _ _)) (.n:SelR _ _ _) ?_
  rintro ⟨x,y⟩ hG
  replace hG:Nat.gcd x y=gg:=hG
  try dsimp only
  refine zj<|zu<|zj<|zc<|e_mv rfl<|e_p (zMa rfl rfl)<|zk<|zf<|zT rfl (fun hy0=> ?_) (fun hy0=> ?_)
  ·
   have hx9:x=gg:=by rw [← hG,show y=0 by omega,Nat.gcd_zero_right]
   have e7:(((x:Nat):Int):Int)=(((Nat.gcd 0 (((Sh.raw s r).1).natAbs)):Nat):Int):=by rw [hx9,hgg]
   rw [e7]
   refine zj<|zc<|e_mv rfl<|e_p (zh rfl)<|zk<|zf<|zla<|zob rfl<|zn<|zn<|zC<|zK<|zf<|zc<|e_p (zI (z:=1) rfl rfl (w64 dd))<|e_mv rfl<|zk<|zga<|zW<|zj<|zc<|e_p (zS rfl rfl)<|zk<|zf<|zj<|zaa rfl rfl<|zB<|zf<|zj<|zu<|zj<|zc<|e_mv rfl<|e_p (zh rfl)<|zk<|zf<|zj<|zO (OW:=[boxA b4 113 [yc yd ((Sh.raw s r).1),yc yd 0,yc yd 0,yc yd 0]]) (O:=[boxA u9_1 113 [yc yd (s.ra),yc yd (s.rb),yc yd (s.rc),yc yd (s.rd)],boxA u8_1 113 [yc yd (s.qa),yc yd (s.qb),yc yd (s.qc),yc yd (s.qd)],boxA b2 25 [yc yd 0,yc yd 0,yc yd 0,yc yd 0],boxA b1 29 (cS s)]) 21 mixed (.then (.block (.then (.then (.block (.then .ret)))))) kr<|e_dm 0 rfl rfl rfl<|e_pv 1 rfl rfl (zg yk rfl sz27 rfl rfl)<|e_pv 2 rfl rfl (zg yh rfl sz3 rfl rfl)<|e_uw 3 rfl rfl (ze 4 ty3 rfl rfl rfl)<|e_dm 4 rfl rfl rfl<|e_pv 5 rfl rfl (zma (z:=(s.tb - (Sh.tm s r))) rfl rfl (w64 om))<|e_dm 6 rfl rfl rfl<|e_pv 7 rfl rfl (zi (i:=1) yi sz3 rfl rfl dd rfl)<|e_uw 8 rfl rfl (ze 2 ty3 rfl rfl rfl)<|e_pv 9 rfl rfl (zGa (z:=((s.tb - (Sh.tm s r))*s.qb)) rfl rfl (w64 om))<|e_dm 10 rfl rfl rfl<|e_pv 11 rfl rfl (zg yk rfl sz27 rfl rfl)<|e_pv 12 rfl rfl (zg yh rfl sz3 rfl rfl)<|e_uw 13 rfl rfl (ze 4 ty3 rfl rfl rfl)<|e_pv 14 rfl rfl (zma (z:=((Sh.tm s r) - s.ta)) rfl rfl (w64 om))<|e_dm 15 rfl rfl rfl<|e_pv 16 rfl rfl (zi (i:=1) yi sz3 rfl rfl dd rfl)<|e_uw 17 rfl rfl (ze 1 ty3 rfl rfl rfl)<|e_pv 18 rfl rfl (zGa (z:=(((Sh.tm s r) - s.ta)*s.rb)) rfl rfl (w64 om))<|e_pv 19 rfl rfl (zI (z:=(((s.tb - (Sh.tm s r))*s.qb)+(((Sh.tm s r) - s.ta)*s.rb))) rfl rfl (w64 om))<|e_pv 20 rfl rfl (zi (i:=1) yi sz3 rfl rfl dd rfl)<|e_one 21 (zo kr rfl rfl rfl rfl rfl sz3 rfl (.skip (.take .nil)) ?_)
   refine zM kr<|zf<|zj ?_
   have e8:((s.tb - (Sh.tm s r))*s.qb)+(((Sh.tm s r) - s.ta)*s.rb)=(Sh.raw s r).2.1:=by rfl
   rw [e8]
   refine zO (OW:=[]) (O:=[boxA b4 113 [yc yd ((Sh.raw s r).1),yc yd ((Sh.raw s r).2.1),yc yd 0,yc yd 0],boxA u9_1 113 [yc yd (s.ra),yc yd (s.rb),yc yd (s.rc),yc yd (s.rd)],boxA u8_1 113 [yc yd (s.qa),yc yd (s.qb),yc yd (s.qc),yc yd (s.qd)],boxA b2 25 [yc yd 0,yc yd 0,yc yd 0,yc yd 0],boxA b1 29 (cS s)]) 100000 mixed (.then (.block (.then (.then (.block (.then .ret)))))) kr<|e_dm 0 rfl rfl rfl<|e_dm 1 rfl rfl rfl<|e_pv 2 rfl rfl (zi (i:=1) yi sz3 rfl rfl dd rfl)<|e_u 3 rfl rfl (ze 0 ty3 rfl rfl rfl)<|e_dm 4 rfl rfl rfl<|e_pv 5 rfl rfl (zi (i:=1) yi sz3 rfl rfl dd rfl)<|e_u 6 rfl rfl (ze 0 ty3 rfl rfl rfl)<|e_pv 7 rfl rfl (zhc (z:=(-((Sh.raw s r).2.1))) rfl (w64 om))<|e_pv 8 rfl rfl (zzd rfl rfl)<|e_pv 9 rfl rfl (zh rfl)<|e_pv 10 rfl rfl (zh rfl)<|zM kr<|zf<|zu ?_
   have e9:((max ((Sh.raw s r).2.1) (-((Sh.raw s r).2.1))):Int)=((((Sh.raw s r).2.1).natAbs:Nat):Int):=by omega
   rw [e9]
   obtain ⟨gg,hgg⟩:∃z:Nat,z=(Nat.gcd (Nat.gcd 0 (((Sh.raw s r).1).natAbs)) (((Sh.raw s r).2.1).natAbs)):=⟨_,rfl⟩
   refine zza (X:=Nat×Nat) (fun x:Nat×Nat=>Nat.gcd x.1 x.2=gg) (fun x=>[(12,yc yd ((x.2:Nat):Int)),(11,yc yd ((x.1:Nat):Int)),(60,yc yd ((((Sh.raw s r).2.1).natAbs:Nat):Int)),(59,yc yd (-((Sh.raw s r).2.1))),(58,yc yd ((Sh.raw s r).2.1)),(57,ye (some ⟨b4,1,none⟩)),(56,yc yd 1),(55,yc yd ((Sh.raw s r).2.1)),(54,ye (some ⟨b4,1,none⟩)),(53,yc yd 1),(52,yc yd (((Nat.gcd 0 (((Sh.raw s r).1).natAbs)):Nat):Int)),(51,ye (some ⟨b4,1,none⟩)),(50,yc yd ((Sh.raw s r).2.1)),(49,yc yd (((Sh.tm s r) - s.ta)*s.rb)),(48,yc yd (s.rb)),(47,ye (some ⟨u9_1,1,none⟩)),(46,yc yd 1),(45,yc yd ((Sh.tm s r) - s.ta)),(44,yc yd (s.ta)),(43,ye (some ⟨b1,2,none⟩)),(42,ye (some ⟨b1,2,none⟩)),(41,yc yd (Sh.tm s r)),(40,yc yd ((s.tb - (Sh.tm s r))*s.qb)),(39,yc yd (s.qb)),(38,ye (some ⟨u8_1,1,none⟩)),(37,yc yd 1),(36,yc yd (s.tb - (Sh.tm s r))),(35,yc yd (Sh.tm s r)),(34,yc yd (s.tb)),(33,ye (some ⟨b1,10,none⟩)),(32,ye (some ⟨b1,10,none⟩)),(31,yc yd 1),(10,yc yd 1),(30,yc yd 1),(29,.bool true),(28,yc yd 1),(68,yc yd 1),(8,ye (some ⟨b4,0,none⟩)),(7,ye (some ⟨u9_1,0,none⟩)),(6,ye (some ⟨u8_1,0,none⟩)),(5,yc yd (Sh.tm s r)),(4,ye (some ⟨b2,0,none⟩)),(2,ye (some ⟨b1,0,none⟩))]) (fun x=>[boxA b4 113 [yc yd ((Sh.raw s r).1),yc yd ((Sh.raw s r).2.1),yc yd 0,yc yd 0],boxA u9_1 113 [yc yd (s.ra),yc yd (s.rb),yc yd (s.rc),yc yd (s.rd)],boxA u8_1 113 [yc yd (s.qa),yc yd (s.qb),yc yd (s.qc),yc yd (s.qd)],boxA b2 25 [yc yd 0,yc yd 0,yc yd 0,yc yd 0],boxA b1 29 (cS s)]) (fun x=>[]) (fun x:Nat×Nat=>x.2) ((Nat.gcd 0 (((Sh.raw s r).1).natAbs)),((Sh.raw s r).2.1).natAbs) (show Nat.gcd (Nat.gcd 0 (((Sh.raw s r).1).natAbs)) (((Sh.raw s r).2.1).natAbs)=gg from by exact hgg.symm) ((.of rfl):SubM _ _) (ho:=((.of [0,0,0,0,0] rfl):PickO _ _ _)) (.n:SelR _ _ _) ?_
   rintro ⟨x,y⟩ hG
   replace hG:Nat.gcd x y=gg:=hG
   try dsimp only
   refine zj<|zu<|zj<|zc<|e_mv rfl<|e_p (zMa rfl rfl)<|zk<|zf<|zT rfl (fun hy0=> ?_) (fun hy0=> ?_)
   ·
    have hx9:x=gg:=by rw [← hG,show y=0 by omega,Nat.gcd_zero_right]
    have e10:(((x:Nat):Int):Int)=(((Nat.gcd (Nat.gcd 0 (((Sh.raw s r).1).natAbs)) (((Sh.raw s r).2.1).natAbs)):Nat):Int):=by rw [hx9,hgg]
    rw [e10]
    refine zj<|zc<|e_mv rfl<|e_p (zh rfl)<|zk<|zf<|zla<|zob rfl<|zn<|zn<|zC<|zK<|zf<|zc<|e_p (zI (z:=2) rfl rfl (w64 dd))<|e_mv rfl<|zk<|zga<|zW<|zj<|zc<|e_p (zS rfl rfl)<|zk<|zf<|zj<|zaa rfl rfl<|zB<|zf<|zj<|zu<|zj<|zc<|e_mv rfl<|e_p (zh rfl)<|zk<|zf<|zj<|zO (OW:=[boxA b4 113 [yc yd ((Sh.raw s r).1),yc yd ((Sh.raw s r).2.1),yc yd 0,yc yd 0]]) (O:=[boxA u9_1 113 [yc yd (s.ra),yc yd (s.rb),yc yd (s.rc),yc yd (s.rd)],boxA u8_1 113 [yc yd (s.qa),yc yd (s.qb),yc yd (s.qc),yc yd (s.qd)],boxA b2 25 [yc yd 0,yc yd 0,yc yd 0,yc yd 0],boxA b1 29 (cS s)]) 21 mixed (.then (.block (.then (.then (.block (.then .ret)))))) kr<|e_dm 0 rfl rfl rfl<|e_pv 1 rfl rfl (zg yk rfl sz27 rfl rfl)<|e_pv 2 rfl rfl (zg yh rfl sz3 rfl rfl)<|e_uw 3 rfl rfl (ze 4 ty3 rfl rfl rfl)<|e_dm 4 rfl rfl rfl<|e_pv 5 rfl rfl (zma (z:=(s.tb - (Sh.tm s r))) rfl rfl (w64 om))<|e_dm 6 rfl rfl rfl<|e_pv 7 rfl rfl (zi (i:=2) yi sz3 rfl rfl dd rfl)<|e_uw 8 rfl rfl (ze 2 ty3 rfl rfl rfl)<|e_pv 9 rfl rfl (zGa (z:=((s.tb - (Sh.tm s r))*s.qc)) rfl rfl (w64 om))<|e_dm 10 rfl rfl rfl<|e_pv 11 rfl rfl (zg yk rfl sz27 rfl rfl)<|e_pv 12 rfl rfl (zg yh rfl sz3 rfl rfl)<|e_uw 13 rfl rfl (ze 4 ty3 rfl rfl rfl)<|e_pv 14 rfl rfl (zma (z:=((Sh.tm s r) - s.ta)) rfl rfl (w64 om))<|e_dm 15 rfl rfl rfl<|e_pv 16 rfl rfl (zi (i:=2) yi sz3 rfl rfl dd rfl)<|e_uw 17 rfl rfl (ze 1 ty3 rfl rfl rfl)<|e_pv 18 rfl rfl (zGa (z:=(((Sh.tm s r) - s.ta)*s.rc)) rfl rfl (w64 om))<|e_pv 19 rfl rfl (zI (z:=(((s.tb - (Sh.tm s r))*s.qc)+(((Sh.tm s r) - s.ta)*s.rc))) rfl rfl (w64 om))<|e_pv 20 rfl rfl (zi (i:=2) yi sz3 rfl rfl dd rfl)<|e_one 21 (zo kr rfl rfl rfl rfl rfl sz3 rfl (.s2 (.take .nil)) ?_)
    refine zM kr<|zf<|zj ?_
    have e11:((s.tb - (Sh.tm s r))*s.qc)+(((Sh.tm s r) - s.ta)*s.rc)=(Sh.raw s r).2.2.1:=by rfl
    rw [e11]
    refine zO (OW:=[]) (O:=[boxA b4 113 [yc yd ((Sh.raw s r).1),yc yd ((Sh.raw s r).2.1),yc yd ((Sh.raw s r).2.2.1),yc yd 0],boxA u9_1 113 [yc yd (s.ra),yc yd (s.rb),yc yd (s.rc),yc yd (s.rd)],boxA u8_1 113 [yc yd (s.qa),yc yd (s.qb),yc yd (s.qc),yc yd (s.qd)],boxA b2 25 [yc yd 0,yc yd 0,yc yd 0,yc yd 0],boxA b1 29 (cS s)]) 100000 mixed (.then (.block (.then (.then (.block (.then .ret)))))) kr<|e_dm 0 rfl rfl rfl<|e_dm 1 rfl rfl rfl<|e_pv 2 rfl rfl (zi (i:=2) yi sz3 rfl rfl dd rfl)<|e_u 3 rfl rfl (ze 0 ty3 rfl rfl rfl)<|e_dm 4 rfl rfl rfl<|e_pv 5 rfl rfl (zi (i:=2) yi sz3 rfl rfl dd rfl)<|e_u 6 rfl rfl (ze 0 ty3 rfl rfl rfl)<|e_pv 7 rfl rfl (zhc (z:=(-((Sh.raw s r).2.2.1))) rfl (w64 om))<|e_pv 8 rfl rfl (zzd rfl rfl)<|e_pv 9 rfl rfl (zh rfl)<|e_pv 10 rfl rfl (zh rfl)<|zM kr<|zf<|zu ?_
    have e12:((max ((Sh.raw s r).2.2.1) (-((Sh.raw s r).2.2.1))):Int)=((((Sh.raw s r).2.2.1).natAbs:Nat):Int):=by omega
    rw [e12]
    obtain ⟨gg,hgg⟩:∃z:Nat,z=(Nat.gcd (Nat.gcd (Nat.gcd 0 (((Sh.raw s r).1).natAbs)) (((Sh.raw s r).2.1).natAbs)) (((Sh.raw s r).2.2.1).natAbs)):=⟨_,rfl⟩
    refine zza (X:=Nat×Nat) (fun x:Nat×Nat=>Nat.gcd x.1 x.2=gg) (fun x=>[(12,yc yd ((x.2:Nat):Int)),(11,yc yd ((x.1:Nat):Int)),(60,yc yd ((((Sh.raw s r).2.2.1).natAbs:Nat):Int)),(59,yc yd (-((Sh.raw s r).2.2.1))),(58,yc yd ((Sh.raw s r).2.2.1)),(57,ye (some ⟨b4,2,none⟩)),(56,yc yd 2),(55,yc yd ((Sh.raw s r).2.2.1)),(54,ye (some ⟨b4,2,none⟩)),(53,yc yd 2),(52,yc yd (((Nat.gcd (Nat.gcd 0 (((Sh.raw s r).1).natAbs)) (((Sh.raw s r).2.1).natAbs)):Nat):Int)),(51,ye (some ⟨b4,2,none⟩)),(50,yc yd ((Sh.raw s r).2.2.1)),(49,yc yd (((Sh.tm s r) - s.ta)*s.rc)),(48,yc yd (s.rc)),(47,ye (some ⟨u9_1,2,none⟩)),(46,yc yd 2),(45,yc yd ((Sh.tm s r) - s.ta)),(44,yc yd (s.ta)),(43,ye (some ⟨b1,2,none⟩)),(42,ye (some ⟨b1,2,none⟩)),(41,yc yd (Sh.tm s r)),(40,yc yd ((s.tb - (Sh.tm s r))*s.qc)),(39,yc yd (s.qc)),(38,ye (some ⟨u8_1,2,none⟩)),(37,yc yd 2),(36,yc yd (s.tb - (Sh.tm s r))),(35,yc yd (Sh.tm s r)),(34,yc yd (s.tb)),(33,ye (some ⟨b1,10,none⟩)),(32,ye (some ⟨b1,10,none⟩)),(31,yc yd 2),(10,yc yd 2),(30,yc yd 2),(29,.bool true),(28,yc yd 2),(68,yc yd 2),(8,ye (some ⟨b4,0,none⟩)),(7,ye (some ⟨u9_1,0,none⟩)),(6,ye (some ⟨u8_1,0,none⟩)),(5,yc yd (Sh.tm s r)),(4,ye (some ⟨b2,0,none⟩)),(2,ye (some ⟨b1,0,none⟩))]) (fun x=>[boxA b4 113 [yc yd ((Sh.raw s r).1),yc yd ((Sh.raw s r).2.1),yc yd ((Sh.raw s r).2.2.1),yc yd 0],boxA u9_1 113 [yc yd (s.ra),yc yd (s.rb),yc yd (s.rc),yc yd (s.rd)],boxA u8_1 113 [yc yd (s.qa),yc yd (s.qb),yc yd (s.qc),yc yd (s.qd)],boxA b2 25 [yc yd 0,yc yd 0,yc yd 0,yc yd 0],boxA b1 29 (cS s)]) (fun x=>[]) (fun x:Nat×Nat=>x.2) ((Nat.gcd (Nat.gcd 0 (((Sh.raw s r).1).natAbs)) (((Sh.raw s r).2.1).natAbs)),((Sh.raw s r).2.2.1).natAbs) (show Nat.gcd (Nat.gcd (Nat.gcd 0 (((Sh.raw s r).1).natAbs)) (((Sh.raw s r).2.1).natAbs)) (((Sh.raw s r).2.2.1).natAbs)=gg from by exact hgg.symm) ((.of rfl):SubM _ _) (ho:=((.of [0,0,0,0,0] rfl):PickO _ _ _)) (.n:SelR _ _ _) ?_
    rintro ⟨x,y⟩ hG
    replace hG:Nat.gcd x y=gg:=hG
    try dsimp only
    refine zj<|zu<|zj<|zc<|e_mv rfl<|e_p (zMa rfl rfl)<|zk<|zf<|zT rfl (fun hy0=> ?_) (fun hy0=> ?_)
    ·
     have hx9:x=gg:=by rw [← hG,show y=0 by omega,Nat.gcd_zero_right]
     have e13:(((x:Nat):Int):Int)=(((Nat.gcd (Nat.gcd (Nat.gcd 0 (((Sh.raw s r).1).natAbs)) (((Sh.raw s r).2.1).natAbs)) (((Sh.raw s r).2.2.1).natAbs)):Nat):Int):=by rw [hx9,hgg]
     rw [e13]
     refine zj<|zc<|e_mv rfl<|e_p (zh rfl)<|zk<|zf<|zla<|zob rfl<|zn<|zn<|zC<|zK<|zf<|zc<|e_p (zI (z:=3) rfl rfl (w64 dd))<|e_mv rfl<|zk<|zga<|zW<|zj<|zc<|e_p (zS rfl rfl)<|zk<|zf<|zj<|zaa rfl rfl<|zB<|zf<|zj<|zu<|zj<|zc<|e_mv rfl<|e_p (zh rfl)<|zk<|zf<|zj<|zO (OW:=[boxA b4 113 [yc yd ((Sh.raw s r).1),yc yd ((Sh.raw s r).2.1),yc yd ((Sh.raw s r).2.2.1),yc yd 0]]) (O:=[boxA u9_1 113 [yc yd (s.ra),yc yd (s.rb),yc yd (s.rc),yc yd (s.rd)],boxA u8_1 113 [yc yd (s.qa),yc yd (s.qb),yc yd (s.qc),yc yd (s.qd)],boxA b2 25 [yc yd 0,yc yd 0,yc yd 0,yc yd 0],boxA b1 29 (cS s)]) 21 mixed (.then (.block (.then (.then (.block (.then .ret)))))) kr<|e_dm 0 rfl rfl rfl<|e_pv 1 rfl rfl (zg yk rfl sz27 rfl rfl)<|e_pv 2 rfl rfl (zg yh rfl sz3 rfl rfl)<|e_uw 3 rfl rfl (ze 4 ty3 rfl rfl rfl)<|e_dm 4 rfl rfl rfl<|e_pv 5 rfl rfl (zma (z:=(s.tb - (Sh.tm s r))) rfl rfl (w64 om))<|e_dm 6 rfl rfl rfl<|e_pv 7 rfl rfl (zi (i:=3) yi sz3 rfl rfl dd rfl)<|e_uw 8 rfl rfl (ze 2 ty3 rfl rfl rfl)<|e_pv 9 rfl rfl (zGa (z:=((s.tb - (Sh.tm s r))*s.qd)) rfl rfl (w64 om))<|e_dm 10 rfl rfl rfl<|e_pv 11 rfl rfl (zg yk rfl sz27 rfl rfl)<|e_pv 12 rfl rfl (zg yh rfl sz3 rfl rfl)<|e_uw 13 rfl rfl (ze 4 ty3 rfl rfl rfl)<|e_pv 14 rfl rfl (zma (z:=((Sh.tm s r) - s.ta)) rfl rfl (w64 om))<|e_dm 15 rfl rfl rfl<|e_pv 16 rfl rfl (zi (i:=3) yi sz3 rfl rfl dd rfl)<|e_uw 17 rfl rfl (ze 1 ty3 rfl rfl rfl)<|e_pv 18 rfl rfl (zGa (z:=(((Sh.tm s r) - s.ta)*s.rd)) rfl rfl (w64 om))<|e_pv 19 rfl rfl (zI (z:=(((s.tb - (Sh.tm s r))*s.qd)+(((Sh.tm s r) - s.ta)*s.rd))) rfl rfl (w64 om))<|e_pv 20 rfl rfl (zi (i:=3) yi sz3 rfl rfl dd rfl)<|e_one 21 (zo kr rfl rfl rfl rfl rfl sz3 rfl (.s2 (.skip (.take .nil))) ?_)
     refine zM kr<|zf<|zj ?_
     have e14:((s.tb - (Sh.tm s r))*s.qd)+(((Sh.tm s r) - s.ta)*s.rd)=(Sh.raw s r).2.2.2:=by rfl
     rw [e14]
     refine zO (OW:=[]) (O:=[boxA b4 113 [yc yd ((Sh.raw s r).1),yc yd ((Sh.raw s r).2.1),yc yd ((Sh.raw s r).2.2.1),yc yd ((Sh.raw s r).2.2.2)],boxA u9_1 113 [yc yd (s.ra),yc yd (s.rb),yc yd (s.rc),yc yd (s.rd)],boxA u8_1 113 [yc yd (s.qa),yc yd (s.qb),yc yd (s.qc),yc yd (s.qd)],boxA b2 25 [yc yd 0,yc yd 0,yc yd 0,yc yd 0],boxA b1 29 (cS s)]) 100000 mixed (.then (.block (.then (.then (.block (.then .ret)))))) kr<|e_dm 0 rfl rfl rfl<|e_dm 1 rfl rfl rfl<|e_pv 2 rfl rfl (zi (i:=3) yi sz3 rfl rfl dd rfl)<|e_u 3 rfl rfl (ze 0 ty3 rfl rfl rfl)<|e_dm 4 rfl rfl rfl<|e_pv 5 rfl rfl (zi (i:=3) yi sz3 rfl rfl dd rfl)<|e_u 6 rfl rfl (ze 0 ty3 rfl rfl rfl)<|e_pv 7 rfl rfl (zhc (z:=(-((Sh.raw s r).2.2.2))) rfl (w64 om))<|e_pv 8 rfl rfl (zzd rfl rfl)<|e_pv 9 rfl rfl (zh rfl)<|e_pv 10 rfl rfl (zh rfl)<|zM kr<|zf<|zu ?_
     have e15:((max ((Sh.raw s r).2.2.2) (-((Sh.raw s r).2.2.2))):Int)=((((Sh.raw s r).2.2.2).natAbs:Nat):Int):=by omega
     rw [e15]
     obtain ⟨gg,hgg⟩:∃z:Nat,z=(Nat.gcd (Nat.gcd (Nat.gcd (Nat.gcd 0 (((Sh.raw s r).1).natAbs)) (((Sh.raw s r).2.1).natAbs)) (((Sh.raw s r).2.2.1).natAbs)) (((Sh.raw s r).2.2.2).natAbs)):=⟨_,rfl⟩
     refine zza (X:=Nat×Nat) (fun x:Nat×Nat=>Nat.gcd x.1 x.2=gg) (fun x=>[(12,yc yd ((x.2:Nat):Int)),(11,yc yd ((x.1:Nat):Int)),(60,yc yd ((((Sh.raw s r).2.2.2).natAbs:Nat):Int)),(59,yc yd (-((Sh.raw s r).2.2.2))),(58,yc yd ((Sh.raw s r).2.2.2)),(57,ye (some ⟨b4,3,none⟩)),(56,yc yd 3),(55,yc yd ((Sh.raw s r).2.2.2)),(54,ye (some ⟨b4,3,none⟩)),(53,yc yd 3),(52,yc yd (((Nat.gcd (Nat.gcd (Nat.gcd 0 (((Sh.raw s r).1).natAbs)) (((Sh.raw s r).2.1).natAbs)) (((Sh.raw s r).2.2.1).natAbs)):Nat):Int)),(51,ye (some ⟨b4,3,none⟩)),(50,yc yd ((Sh.raw s r).2.2.2)),(49,yc yd (((Sh.tm s r) - s.ta)*s.rd)),(48,yc yd (s.rd)),(47,ye (some ⟨u9_1,3,none⟩)),(46,yc yd 3),(45,yc yd ((Sh.tm s r) - s.ta)),(44,yc yd (s.ta)),(43,ye (some ⟨b1,2,none⟩)),(42,ye (some ⟨b1,2,none⟩)),(41,yc yd (Sh.tm s r)),(40,yc yd ((s.tb - (Sh.tm s r))*s.qd)),(39,yc yd (s.qd)),(38,ye (some ⟨u8_1,3,none⟩)),(37,yc yd 3),(36,yc yd (s.tb - (Sh.tm s r))),(35,yc yd (Sh.tm s r)),(34,yc yd (s.tb)),(33,ye (some ⟨b1,10,none⟩)),(32,ye (some ⟨b1,10,none⟩)),(31,yc yd 3),(10,yc yd 3),(30,yc yd 3),(29,.bool true),(28,yc yd 3),(68,yc yd 3),(8,ye (some ⟨b4,0,none⟩)),(7,ye (some ⟨u9_1,0,none⟩)),(6,ye (some ⟨u8_1,0,none⟩)),(5,yc yd (Sh.tm s r)),(4,ye (some ⟨b2,0,none⟩)),(2,ye (some ⟨b1,0,none⟩))]) (fun x=>[boxA b4 113 [yc yd ((Sh.raw s r).1),yc yd ((Sh.raw s r).2.1),yc yd ((Sh.raw s r).2.2.1),yc yd ((Sh.raw s r).2.2.2)],boxA u9_1 113 [yc yd (s.ra),yc yd (s.rb),yc yd (s.rc),yc yd (s.rd)],boxA u8_1 113 [yc yd (s.qa),yc yd (s.qb),yc yd (s.qc),yc yd (s.qd)],boxA b2 25 [yc yd 0,yc yd 0,yc yd 0,yc yd 0],boxA b1 29 (cS s)]) (fun x=>[]) (fun x:Nat×Nat=>x.2) ((Nat.gcd (Nat.gcd (Nat.gcd 0 (((Sh.raw s r).1).natAbs)) (((Sh.raw s r).2.1).natAbs)) (((Sh.raw s r).2.2.1).natAbs)),((Sh.raw s r).2.2.2).natAbs) (show Nat.gcd (Nat.gcd (Nat.gcd (Nat.gcd 0 (((Sh.raw s r).1).natAbs)) (((Sh.raw s r).2.1).natAbs)) (((Sh.raw s r).2.2.1).natAbs)) (((Sh.raw s r).2.2.2).natAbs)=gg from by exact hgg.symm) ((.of rfl):SubM _ _) (ho:=((.of [0,0,0,0,0] rfl):PickO _ _ _)) (.n:SelR _ _ _) ?_
     rintro ⟨x,y⟩ hG
     replace hG:Nat.gcd x y=gg:=hG
     try dsimp only
     refine zj<|zu<|zj<|zc<|e_mv rfl<|e_p (zMa rfl rfl)<|zk<|zf<|zT rfl (fun hy0=> ?_) (fun hy0=> ?_)
     ·
      have hx9:x=gg:=by rw [← hG,show y=0 by omega,Nat.gcd_zero_right]
      have e16:(((x:Nat):Int):Int)=(((Nat.gcd (Nat.gcd (Nat.gcd (Nat.gcd 0 (((Sh.raw s r).1).natAbs)) (((Sh.raw s r).2.1).natAbs)) (((Sh.raw s r).2.2.1).natAbs)) (((Sh.raw s r).2.2.2).natAbs)):Nat):Int):=by rw [hx9,hgg]
      rw [e16]
      refine zj<|zc<|e_mv rfl<|e_p (zh rfl)<|zk<|zf<|zla<|zob rfl<|zn<|zn<|zC<|zK<|zf<|zc<|e_p (zI (z:=4) rfl rfl (w64 dd))<|e_mv rfl<|zk<|zga<|zW<|zj<|zc<|e_p (zS rfl rfl)<|zk<|zf<|zj<|zua rfl rfl<|zla<|zn<|zn<|zC<|zf<|zj<|zj ?_
      have e17:((((Nat.gcd (Nat.gcd (Nat.gcd (Nat.gcd 0 (((Sh.raw s r).1).natAbs)) (((Sh.raw s r).2.1).natAbs)) (((Sh.raw s r).2.2.1).natAbs)) (((Sh.raw s r).2.2.2).natAbs)):Nat):Int):Int)=(((Sh.g4 (Sh.raw s r)):Nat):Int):=by rfl
      rw [e17]
      refine zc<|e_mv rfl<|e_p (zMa rfl rfl)<|zk<|zf<|zT rfl (fun hg0=> ?_) (fun hg0=> ?_)
      ·
       have hz:Sh.rot s r=(0,0,0,0):=Sh.red_zero om
       refine zj<|zc<|e_p (zv zr25 rfl yl (.c sz3 (.c sz3 (.c sz3 (.c sz3 .n)))) .n .n)<|zl 3 rfl rfl rfl rfl rfl sz25 rfl (.t4 .nil) (.s (.s (.s .z)))<|zk<|zf<|zR<|zq ?_
       exact zL Tryz.results43 () trivial (zr 3 ty25 rfl rfl (.t4 .nil)) (by simp only [hz]) (ho:=(.n:PickO _ _ _)) (.n:SelR _ _ _)
      ·
       have hg9:Sh.g4 (Sh.raw s r)≠0:=by omega
       have hd0:=Sh.tdiv_b (g:=Sh.g4 (Sh.raw s r)) hrw.1
       have hd1:=Sh.tdiv_b (g:=Sh.g4 (Sh.raw s r)) hrw.2.1
       have hd2:=Sh.tdiv_b (g:=Sh.g4 (Sh.raw s r)) hrw.2.2.1
       have hd3:=Sh.tdiv_b (g:=Sh.g4 (Sh.raw s r)) hrw.2.2.2
       refine zB<|zf<|zj<|zba (.c (i:=3) rfl (.c (i:=0) rfl (.c (i:=0) rfl (.c (i:=0) rfl (.c (i:=0) rfl .n)))))<|zO (OW:=[boxA b2 25 [yc yd 0,yc yd 0,yc yd 0,yc yd 0]]) (O:=[boxA b4 113 [yc yd ((Sh.raw s r).1),yc yd ((Sh.raw s r).2.1),yc yd ((Sh.raw s r).2.2.1),yc yd ((Sh.raw s r).2.2.2)],boxA u9_1 113 [yc yd (s.ra),yc yd (s.rb),yc yd (s.rc),yc yd (s.rd)],boxA u8_1 113 [yc yd (s.qa),yc yd (s.qb),yc yd (s.qc),yc yd (s.qd)],boxA b1 29 (cS s)]) 17 mixed (.then .ret) kr<|e_pv 0 rfl rfl (zi (i:=0) yi sz3 rfl rfl dd rfl)<|e_uw 1 rfl rfl (ze 1 ty3 rfl rfl rfl)<|e_dm 2 rfl rfl rfl<|e_pv 3 rfl rfl (zdb (z:=((Sh.raw s r).1).tdiv (((Sh.g4 (Sh.raw s r)):Nat):Int)) rfl rfl om (w64 om))<|e_pv 4 rfl rfl (zi (i:=1) yi sz3 rfl rfl dd rfl)<|e_uw 5 rfl rfl (ze 1 ty3 rfl rfl rfl)<|e_dm 6 rfl rfl rfl<|e_pv 7 rfl rfl (zdb (z:=((Sh.raw s r).2.1).tdiv (((Sh.g4 (Sh.raw s r)):Nat):Int)) rfl rfl om (w64 om))<|e_pv 8 rfl rfl (zi (i:=2) yi sz3 rfl rfl dd rfl)<|e_uw 9 rfl rfl (ze 1 ty3 rfl rfl rfl)<|e_dm 10 rfl rfl rfl<|e_pv 11 rfl rfl (zdb (z:=((Sh.raw s r).2.2.1).tdiv (((Sh.g4 (Sh.raw s r)):Nat):Int)) rfl rfl om (w64 om))<|e_pv 12 rfl rfl (zi (i:=3) yi sz3 rfl rfl dd rfl)<|e_uw 13 rfl rfl (ze 1 ty3 rfl rfl rfl)<|e_dm 14 rfl rfl rfl<|e_pv 15 rfl rfl (zdb (z:=((Sh.raw s r).2.2.2).tdiv (((Sh.g4 (Sh.raw s r)):Nat):Int)) rfl rfl om (w64 om))<|e_pv 16 rfl rfl (zv zr25 rfl yl (.c sz3 (.c sz3 (.c sz3 (.c sz3 .n)))) (.c rfl (.c rfl (.c rfl (.c rfl .n)))) (.c rfl rfl rfl (.take .nil) (.c rfl rfl rfl (.skip (.take .nil)) (.c rfl rfl rfl (.s2 (.take .nil)) (.c rfl rfl rfl (.s2 (.skip (.take .nil))) .n)))))<|e_one 17 (zo kr rfl rfl rfl rfl rfl sz25 rfl (.t4 .nil) ?_)
       refine zM kr<|zf<|zR ?_
       exact zL Tryz.results43 () trivial (zr 0 ty25 rfl rfl (.t4 .nil)) rfl (ho:=(.n:PickO _ _ _)) (.n:SelR _ _ _)
     ·
      refine zB<|zK<|zf<|zO (OW:=[]) (O:=[boxA b4 113 [yc yd ((Sh.raw s r).1),yc yd ((Sh.raw s r).2.1),yc yd ((Sh.raw s r).2.2.1),yc yd ((Sh.raw s r).2.2.2)],boxA u9_1 113 [yc yd (s.ra),yc yd (s.rb),yc yd (s.rc),yc yd (s.rd)],boxA u8_1 113 [yc yd (s.qa),yc yd (s.qb),yc yd (s.qc),yc yd (s.qd)],boxA b2 25 [yc yd 0,yc yd 0,yc yd 0,yc yd 0],boxA b1 29 (cS s)]) 100000 mixed (.then (.block (.block (.then (.then (.block (.then .ret))))))) kr<|e_dm 0 rfl rfl rfl<|e_dm 1 rfl rfl rfl<|e_dm 2 rfl rfl rfl<|e_pv 3 rfl rfl (zeb (z:=(((x%y):Nat):Int)) rfl rfl om (remN om om))<|e_pv 4 rfl rfl (zh rfl)<|e_pv 5 rfl rfl (zh rfl)<|zM kr<|zwa (y,(x%y)) (show Nat.gcd y (x%y)=gg from by exact Sh.gcd_step hG) (by show x%y<y;exact Nat.mod_lt _ om) ((.of rfl):SubM _ _) (ho:=((.of [0,0,0,0,0] rfl):PickO _ _ _)) (.n:SelR _ _ _)
    ·
     refine zB<|zK<|zf<|zO (OW:=[]) (O:=[boxA b4 113 [yc yd ((Sh.raw s r).1),yc yd ((Sh.raw s r).2.1),yc yd ((Sh.raw s r).2.2.1),yc yd 0],boxA u9_1 113 [yc yd (s.ra),yc yd (s.rb),yc yd (s.rc),yc yd (s.rd)],boxA u8_1 113 [yc yd (s.qa),yc yd (s.qb),yc yd (s.qc),yc yd (s.qd)],boxA b2 25 [yc yd 0,yc yd 0,yc yd 0,yc yd 0],boxA b1 29 (cS s)]) 100000 mixed (.then (.block (.block (.then (.then (.block (.then .ret))))))) kr<|e_dm 0 rfl rfl rfl<|e_dm 1 rfl rfl rfl<|e_dm 2 rfl rfl rfl<|e_pv 3 rfl rfl (zeb (z:=(((x%y):Nat):Int)) rfl rfl om (remN om om))<|e_pv 4 rfl rfl (zh rfl)<|e_pv 5 rfl rfl (zh rfl)<|zM kr<|zwa (y,(x%y)) (show Nat.gcd y (x%y)=gg from by exact Sh.gcd_step hG) (by show x%y<y;exact Nat.mod_lt _ om) ((.of rfl):SubM _ _) (ho:=((.of [0,0,0,0,0] rfl):PickO _ _ _)) (.n:SelR _ _ _)
   ·
    refine zB<|zK<|zf<|zO (OW:=[]) (O:=[boxA b4 113 [yc yd ((Sh.raw s r).1),yc yd ((Sh.raw s r).2.1),yc yd 0,yc yd 0],boxA u9_1 113 [yc yd (s.ra),yc yd (s.rb),yc yd (s.rc),yc yd (s.rd)],boxA u8_1 113 [yc yd (s.qa),yc yd (s.qb),yc yd (s.qc),yc yd (s.qd)],boxA b2 25 [yc yd 0,yc yd 0,yc yd 0,yc yd 0],boxA b1 29 (cS s)]) 100000 mixed (.then (.block (.block (.then (.then (.block (.then .ret))))))) kr<|e_dm 0 rfl rfl rfl<|e_dm 1 rfl rfl rfl<|e_dm 2 rfl rfl rfl<|e_pv 3 rfl rfl (zeb (z:=(((x%y):Nat):Int)) rfl rfl om (remN om om))<|e_pv 4 rfl rfl (zh rfl)<|e_pv 5 rfl rfl (zh rfl)<|zM kr<|zwa (y,(x%y)) (show Nat.gcd y (x%y)=gg from by exact Sh.gcd_step hG) (by show x%y<y;exact Nat.mod_lt _ om) ((.of rfl):SubM _ _) (ho:=((.of [0,0,0,0,0] rfl):PickO _ _ _)) (.n:SelR _ _ _)
  ·
   refine zB<|zK<|zf<|zO (OW:=[]) (O:=[boxA b4 113 [yc yd ((Sh.raw s r).1),yc yd 0,yc yd 0,yc yd 0],boxA u9_1 113 [yc yd (s.ra),yc yd (s.rb),yc yd (s.rc),yc yd (s.rd)],boxA u8_1 113 [yc yd (s.qa),yc yd (s.qb),yc yd (s.qc),yc yd (s.qd)],boxA b2 25 [yc yd 0,yc yd 0,yc yd 0,yc yd 0],boxA b1 29 (cS s)]) 100000 mixed (.then (.block (.block (.then (.then (.block (.then .ret))))))) kr<|e_dm 0 rfl rfl rfl<|e_dm 1 rfl rfl rfl<|e_dm 2 rfl rfl rfl<|e_pv 3 rfl rfl (zeb (z:=(((x%y):Nat):Int)) rfl rfl om (remN om om))<|e_pv 4 rfl rfl (zh rfl)<|e_pv 5 rfl rfl (zh rfl)<|zM kr<|zwa (y,(x%y)) (show Nat.gcd y (x%y)=gg from by exact Sh.gcd_step hG) (by show x%y<y;exact Nat.mod_lt _ om) ((.of rfl):SubM _ _) (ho:=((.of [0,0,0,0,0] rfl):PickO _ _ _)) (.n:SelR _ _ _)
 refine zia (X:=Nat×Nat) (k':=1) (L':=(lb 12 2047)) (fun (u8_1,u9_1)=>([(7,ye (some ⟨u9_1,0,none⟩)),(6,ye (some ⟨u8_1,0,none⟩)),(27,.agg #[yc yd (s.ra),yc yd (s.rb),yc yd (s.rc),yc yd (s.rd)]),(5,yc yd (Sh.tm s r)),(4,ye (some ⟨b2,0,none⟩)),(2,ye (some ⟨b1,0,none⟩))],[boxA u8_1 113 [yc yd (s.qa),yc yd (s.qb),yc yd (s.qc),yc yd (s.qd)],boxA u9_1 113 [yc yd 0,yc yd 0,yc yd 0,yc yd 0]],[boxA b2 25 [yc yd 0,yc yd 0,yc yd 0,yc yd 0],boxA b1 29 (cS s)],[])) ?_ (fun hD1=> ?_)
 ·
  rintro ⟨u8_1,u9_1⟩
  dsimp only [cw,cS]
  refine zRa 11 kr ?_
  ·
   refine zJe (zta (i:=1) rfl)<|zo kr rfl rfl rfl rfl rfl sz113 rfl (.t4 .nil) ?_
   exact zN (hD0 (u8_1,u9_1)) kr ((.of rfl):SubM _ _) .rfl .rfl (.n:SelR _ _ _)
 refine zia (X:=Nat×Nat) (k':=2) (L':=(lb 12 1023)) (fun (u8_1,u9_1)=>([(7,ye (some ⟨u9_1,0,none⟩)),(6,ye (some ⟨u8_1,0,none⟩)),(27,.agg #[yc yd (s.ra),yc yd (s.rb),yc yd (s.rc),yc yd (s.rd)]),(23,.agg #[yc yd (s.qa),yc yd (s.qb),yc yd (s.qc),yc yd (s.qd)]),(5,yc yd (Sh.tm s r)),(4,ye (some ⟨b2,0,none⟩)),(2,ye (some ⟨b1,0,none⟩))],[boxA u9_1 113 [yc yd 0,yc yd 0,yc yd 0,yc yd 0],boxA u8_1 113 [yc yd 0,yc yd 0,yc yd 0,yc yd 0]],[boxA b2 25 [yc yd 0,yc yd 0,yc yd 0,yc yd 0],boxA b1 29 (cS s)],[])) ?_ (fun hD2=> ?_)
 ·
  rintro ⟨u8_1,u9_1⟩
  dsimp only [cw,cS]
  refine zRa 10 kr ?_
  ·
   refine zJe (zta (i:=1) rfl)<|zo kr rfl rfl rfl rfl rfl sz113 rfl (.t4 .nil) ?_
   exact zN (hD1 (u8_1,u9_1)) kr ((.of rfl):SubM _ _) .rfl .rfl (.n:SelR _ _ _)
 refine zia (X:=Nat) (k':=3) (L':=(lb 12 511)) (fun u8_1=>([(6,ye (some ⟨u8_1,0,none⟩)),(27,.agg #[yc yd (s.ra),yc yd (s.rb),yc yd (s.rc),yc yd (s.rd)]),(23,.agg #[yc yd (s.qa),yc yd (s.qb),yc yd (s.qc),yc yd (s.qd)]),(5,yc yd (Sh.tm s r)),(4,ye (some ⟨b2,0,none⟩)),(2,ye (some ⟨b1,0,none⟩))],[boxA u8_1 113 [yc yd 0,yc yd 0,yc yd 0,yc yd 0]],[boxA b2 25 [yc yd 0,yc yd 0,yc yd 0,yc yd 0],boxA b1 29 (cS s)],[])) ?_ (fun hD3=> ?_)
 ·
  rintro u8_1
  dsimp only [cw,cS]
  refine zRa 9 kr ?_
  ·
   refine zya rfl rfl rfl rfl (zp zr113 rfl) (fun u9_1 _=> ?_)
   exact zN (hD2 (u8_1,u9_1)) kr ((.of rfl):SubM _ _) .rfl .rfl (.n:SelR _ _ _)
 refine zia (X:=Nat) (k':=3) (L':=(lb 12 767)) (fun u9_1=>([(7,ye (some ⟨u9_1,0,none⟩)),(27,.agg #[yc yd (s.ra),yc yd (s.rb),yc yd (s.rc),yc yd (s.rd)]),(23,.agg #[yc yd (s.qa),yc yd (s.qb),yc yd (s.qc),yc yd (s.qd)]),(5,yc yd (Sh.tm s r)),(4,ye (some ⟨b2,0,none⟩)),(2,ye (some ⟨b1,0,none⟩))],[boxA u9_1 113 [yc yd 0,yc yd 0,yc yd 0,yc yd 0]],[boxA b2 25 [yc yd 0,yc yd 0,yc yd 0,yc yd 0],boxA b1 29 (cS s)],[])) ?_ (fun hD4=> ?_)
 ·
  rintro u9_1
  dsimp only [cw,cS]
  refine zRa 8 kr ?_
  ·
   refine zya rfl rfl rfl rfl (zp zr113 rfl) (fun u8_1 _=> ?_)
   exact zN (hD2 (u8_1,u9_1)) kr ((.of rfl):SubM _ _) (zed 1 rfl (zed 0 rfl .nil)) .rfl (.n:SelR _ _ _)
 refine zia (X:=Nat×Nat) (k':=3) (L':=(lb 12 895)) (fun (u8_1,u9_1)=>([(7,ye (some ⟨u9_1,0,none⟩)),(6,ye (some ⟨u8_1,0,none⟩)),(23,.agg #[yc yd (s.qa),yc yd (s.qb),yc yd (s.qc),yc yd (s.qd)]),(26,.agg #[yc yd (s.ra),yc yd (s.rb),yc yd (s.rc),yc yd (s.rd)]),(5,yc yd (Sh.tm s r)),(4,ye (some ⟨b2,0,none⟩)),(2,ye (some ⟨b1,0,none⟩))],[boxA u9_1 113 [yc yd 0,yc yd 0,yc yd 0,yc yd 0],boxA u8_1 113 [yc yd 0,yc yd 0,yc yd 0,yc yd 0]],[boxA b2 25 [yc yd 0,yc yd 0,yc yd 0,yc yd 0],boxA b1 29 (cS s)],[])) ?_ (fun hD5=> ?_)
 ·
  rintro ⟨u8_1,u9_1⟩
  dsimp only [cw,cS]
  refine zRa 7 kr ?_
  ·
   refine zBa rfl rfl rfl rfl (.c rfl .n) ce73 (zlb (ea:=s.ra) (eb:=s.rb) (ec:=s.rc) (ed:=s.rd)) (.n) ?_
   exact zN (hD2 (u8_1,u9_1)) kr ((.of rfl):SubM _ _) .rfl .rfl (.n:SelR _ _ _)
 refine zia (X:=Unit) (k':=4) (L':=(lb 12 255)) (fun _=>([(27,.agg #[yc yd (s.ra),yc yd (s.rb),yc yd (s.rc),yc yd (s.rd)]),(23,.agg #[yc yd (s.qa),yc yd (s.qb),yc yd (s.qc),yc yd (s.qd)]),(5,yc yd (Sh.tm s r)),(4,ye (some ⟨b2,0,none⟩)),(2,ye (some ⟨b1,0,none⟩))],[],[boxA b2 25 [yc yd 0,yc yd 0,yc yd 0,yc yd 0],boxA b1 29 (cS s)],[])) ?_ (fun hD6=> ?_)
 ·
  rintro ⟨⟩
  dsimp only [cw,cS]
  refine zqb 8 9 kr ?_ ?_
  ·
   refine zya rfl rfl rfl rfl (zp zr113 rfl) (fun u8_1 _=> ?_)
   exact zN (hD3 u8_1) kr ((.of rfl):SubM _ _) .rfl .rfl (.n:SelR _ _ _)
  ·
   refine zya rfl rfl rfl rfl (zp zr113 rfl) (fun u9_1 _=> ?_)
   exact zN (hD4 u9_1) kr ((.of rfl):SubM _ _) .rfl .rfl (.n:SelR _ _ _)
 refine zia (X:=Nat) (k':=4) (L':=(lb 12 383)) (fun u8_1=>([(6,ye (some ⟨u8_1,0,none⟩)),(23,.agg #[yc yd (s.qa),yc yd (s.qb),yc yd (s.qc),yc yd (s.qd)]),(26,.agg #[yc yd (s.ra),yc yd (s.rb),yc yd (s.rc),yc yd (s.rd)]),(5,yc yd (Sh.tm s r)),(4,ye (some ⟨b2,0,none⟩)),(2,ye (some ⟨b1,0,none⟩))],[boxA u8_1 113 [yc yd 0,yc yd 0,yc yd 0,yc yd 0]],[boxA b2 25 [yc yd 0,yc yd 0,yc yd 0,yc yd 0],boxA b1 29 (cS s)],[])) ?_ (fun hD7=> ?_)
 ·
  rintro u8_1
  dsimp only [cw,cS]
  refine zqb 7 9 kr ?_ ?_
  ·
   refine zBa rfl rfl rfl rfl (.c rfl .n) ce73 (zlb (ea:=s.ra) (eb:=s.rb) (ec:=s.rc) (ed:=s.rd)) (.n) ?_
   exact zN (hD3 u8_1) kr ((.of rfl):SubM _ _) .rfl .rfl (.n:SelR _ _ _)
  ·
   refine zya rfl rfl rfl rfl (zp zr113 rfl) (fun u9_1 _=> ?_)
   exact zN (hD5 (u8_1,u9_1)) kr ((.of rfl):SubM _ _) .rfl .rfl (.n:SelR _ _ _)
 refine zia (X:=Nat) (k':=4) (L':=(lb 12 639)) (fun u9_1=>([(7,ye (some ⟨u9_1,0,none⟩)),(23,.agg #[yc yd (s.qa),yc yd (s.qb),yc yd (s.qc),yc yd (s.qd)]),(26,.agg #[yc yd (s.ra),yc yd (s.rb),yc yd (s.rc),yc yd (s.rd)]),(5,yc yd (Sh.tm s r)),(4,ye (some ⟨b2,0,none⟩)),(2,ye (some ⟨b1,0,none⟩))],[boxA u9_1 113 [yc yd 0,yc yd 0,yc yd 0,yc yd 0]],[boxA b2 25 [yc yd 0,yc yd 0,yc yd 0,yc yd 0],boxA b1 29 (cS s)],[])) ?_ (fun hD8=> ?_)
 ·
  rintro u9_1
  dsimp only [cw,cS]
  refine zqb 7 8 kr ?_ ?_
  ·
   refine zBa rfl rfl rfl rfl (.c rfl .n) ce73 (zlb (ea:=s.ra) (eb:=s.rb) (ec:=s.rc) (ed:=s.rd)) (.n) ?_
   exact zN (hD4 u9_1) kr ((.of rfl):SubM _ _) .rfl .rfl (.n:SelR _ _ _)
  ·
   refine zya rfl rfl rfl rfl (zp zr113 rfl) (fun u8_1 _=> ?_)
   exact zN (hD5 (u8_1,u9_1)) kr ((.of rfl):SubM _ _) (zed 1 rfl (zed 0 rfl .nil)) .rfl (.n:SelR _ _ _)
 refine zia (X:=Nat×Nat) (k':=4) (L':=(lb 12 887)) (fun (u8_1,u9_1)=>([(7,ye (some ⟨u9_1,0,none⟩)),(6,ye (some ⟨u8_1,0,none⟩)),(26,.agg #[yc yd (s.ra),yc yd (s.rb),yc yd (s.rc),yc yd (s.rd)]),(22,.agg #[yc yd (s.qa),yc yd (s.qb),yc yd (s.qc),yc yd (s.qd)]),(5,yc yd (Sh.tm s r)),(4,ye (some ⟨b2,0,none⟩)),(2,ye (some ⟨b1,0,none⟩))],[boxA u9_1 113 [yc yd 0,yc yd 0,yc yd 0,yc yd 0],boxA u8_1 113 [yc yd 0,yc yd 0,yc yd 0,yc yd 0]],[boxA b2 25 [yc yd 0,yc yd 0,yc yd 0,yc yd 0],boxA b1 29 (cS s)],[])) ?_ (fun hD9=> ?_)
 ·
  rintro ⟨u8_1,u9_1⟩
  dsimp only [cw,cS]
  refine zRa 3 kr ?_
  ·
   refine zBa rfl rfl rfl rfl (.c rfl .n) ce73 (zlb (ea:=s.qa) (eb:=s.qb) (ec:=s.qc) (ed:=s.qd)) (.n) ?_
   exact zN (hD5 (u8_1,u9_1)) kr ((.of rfl):SubM _ _) .rfl .rfl (.n:SelR _ _ _)
 refine zia (X:=Unit) (k':=5) (L':=(lb 12 127)) (fun _=>([(23,.agg #[yc yd (s.qa),yc yd (s.qb),yc yd (s.qc),yc yd (s.qd)]),(26,.agg #[yc yd (s.ra),yc yd (s.rb),yc yd (s.rc),yc yd (s.rd)]),(5,yc yd (Sh.tm s r)),(4,ye (some ⟨b2,0,none⟩)),(2,ye (some ⟨b1,0,none⟩))],[],[boxA b2 25 [yc yd 0,yc yd 0,yc yd 0,yc yd 0],boxA b1 29 (cS s)],[])) ?_ (fun hD10=> ?_)
 ·
  rintro ⟨⟩
  dsimp only [cw,cS]
  refine zFe 7 8 9 kr ?_ ?_ ?_
  ·
   refine zBa rfl rfl rfl rfl (.c rfl .n) ce73 (zlb (ea:=s.ra) (eb:=s.rb) (ec:=s.rc) (ed:=s.rd)) (.n) ?_
   exact zN (hD6 ()) kr ((.of rfl):SubM _ _) .rfl .rfl (.n:SelR _ _ _)
  ·
   refine zya rfl rfl rfl rfl (zp zr113 rfl) (fun u8_1 _=> ?_)
   exact zN (hD7 u8_1) kr ((.of rfl):SubM _ _) .rfl .rfl (.n:SelR _ _ _)
  ·
   refine zya rfl rfl rfl rfl (zp zr113 rfl) (fun u9_1 _=> ?_)
   exact zN (hD8 u9_1) kr ((.of rfl):SubM _ _) .rfl .rfl (.n:SelR _ _ _)
 refine zia (X:=Nat) (k':=5) (L':=(lb 12 375)) (fun u8_1=>([(6,ye (some ⟨u8_1,0,none⟩)),(26,.agg #[yc yd (s.ra),yc yd (s.rb),yc yd (s.rc),yc yd (s.rd)]),(22,.agg #[yc yd (s.qa),yc yd (s.qb),yc yd (s.qc),yc yd (s.qd)]),(5,yc yd (Sh.tm s r)),(4,ye (some ⟨b2,0,none⟩)),(2,ye (some ⟨b1,0,none⟩))],[boxA u8_1 113 [yc yd 0,yc yd 0,yc yd 0,yc yd 0]],[boxA b2 25 [yc yd 0,yc yd 0,yc yd 0,yc yd 0],boxA b1 29 (cS s)],[])) ?_ (fun hD11=> ?_)
 ·
  rintro u8_1
  dsimp only [cw,cS]
  refine zqb 3 9 kr ?_ ?_
  ·
   refine zBa rfl rfl rfl rfl (.c rfl .n) ce73 (zlb (ea:=s.qa) (eb:=s.qb) (ec:=s.qc) (ed:=s.qd)) (.n) ?_
   exact zN (hD7 u8_1) kr ((.of rfl):SubM _ _) .rfl .rfl (.n:SelR _ _ _)
  ·
   refine zya rfl rfl rfl rfl (zp zr113 rfl) (fun u9_1 _=> ?_)
   exact zN (hD9 (u8_1,u9_1)) kr ((.of rfl):SubM _ _) .rfl .rfl (.n:SelR _ _ _)
 refine zia (X:=Nat) (k':=5) (L':=(lb 12 631)) (fun u9_1=>([(7,ye (some ⟨u9_1,0,none⟩)),(26,.agg #[yc yd (s.ra),yc yd (s.rb),yc yd (s.rc),yc yd (s.rd)]),(22,.agg #[yc yd (s.qa),yc yd (s.qb),yc yd (s.qc),yc yd (s.qd)]),(5,yc yd (Sh.tm s r)),(4,ye (some ⟨b2,0,none⟩)),(2,ye (some ⟨b1,0,none⟩))],[boxA u9_1 113 [yc yd 0,yc yd 0,yc yd 0,yc yd 0]],[boxA b2 25 [yc yd 0,yc yd 0,yc yd 0,yc yd 0],boxA b1 29 (cS s)],[])) ?_ (fun hD12=> ?_)
 ·
  rintro u9_1
  dsimp only [cw,cS]
  refine zqb 3 8 kr ?_ ?_
  ·
   refine zBa rfl rfl rfl rfl (.c rfl .n) ce73 (zlb (ea:=s.qa) (eb:=s.qb) (ec:=s.qc) (ed:=s.qd)) (.n) ?_
   exact zN (hD8 u9_1) kr ((.of rfl):SubM _ _) .rfl .rfl (.n:SelR _ _ _)
  ·
   refine zya rfl rfl rfl rfl (zp zr113 rfl) (fun u8_1 _=> ?_)
   exact zN (hD9 (u8_1,u9_1)) kr ((.of rfl):SubM _ _) (zed 1 rfl (zed 0 rfl .nil)) .rfl (.n:SelR _ _ _)
 refine zFe 3 8 9 kr ?_ ?_ ?_
 ·
  refine zBa rfl rfl rfl rfl (.c rfl .n) ce73 (zlb (ea:=s.qa) (eb:=s.qb) (ec:=s.qc) (ed:=s.qd)) (.n) ?_
  exact zN (hD10 ()) kr ((.of rfl):SubM _ _) .rfl .rfl (.n:SelR _ _ _)
 ·
  refine zya rfl rfl rfl rfl (zp zr113 rfl) (fun u8_1 _=> ?_)
  exact zN (hD11 u8_1) kr ((.of rfl):SubM _ _) .rfl .rfl (.n:SelR _ _ _)
 ·
  refine zya rfl rfl rfl rfl (zp zr113 rfl) (fun u9_1 _=> ?_)
  exact zN (hD12 u9_1) kr ((.of rfl):SubM _ _) .rfl .rfl (.n:SelR _ _ _)
end Go.Proofs.YtjeahiahjgifgaaGreatDoor.Sp
namespace Go.Proofs.YtjeahiahjgifgaaGreatDoor.Sp
open Go
set_option linter.unusedVariables false
set_option maxRecDepth 100000
set_option maxHeartbeats 8000000
theorem zPc {s:Sh.S} {n:Int} (hfi: -9223372036854775808≤s.fi∧s.fi≤9223372036854775807) (hst: -9223372036854775808≤s.st∧s.st≤9223372036854775807) (hta: -9223372036854775808≤s.ta∧s.ta≤9223372036854775807) (htb: -9223372036854775808≤s.tb∧s.tb≤9223372036854775807) (hxa: -9223372036854775808≤s.xa∧s.xa≤9223372036854775807) (hya: -9223372036854775808≤s.ya∧s.ya≤9223372036854775807) (hza: -9223372036854775808≤s.za∧s.za≤9223372036854775807) (hqa: -9223372036854775808≤s.qa∧s.qa≤9223372036854775807) (hqb: -9223372036854775808≤s.qb∧s.qb≤9223372036854775807) (hqc: -9223372036854775808≤s.qc∧s.qc≤9223372036854775807) (hqd: -9223372036854775808≤s.qd∧s.qd≤9223372036854775807) (hxb: -9223372036854775808≤s.xb∧s.xb≤9223372036854775807) (hyb: -9223372036854775808≤s.yb∧s.yb≤9223372036854775807) (hzb: -9223372036854775808≤s.zb∧s.zb≤9223372036854775807) (hra: -9223372036854775808≤s.ra∧s.ra≤9223372036854775807) (hrb: -9223372036854775808≤s.rb∧s.rb≤9223372036854775807) (hrc: -9223372036854775808≤s.rc∧s.rc≤9223372036854775807) (hrd: -9223372036854775808≤s.rd∧s.rd≤9223372036854775807):Con ym 12 [.agg #[yc yd (s.fi),yc yd (s.st),yc yd (s.ta),yc yd (s.xa),yc yd (s.ya),yc yd (s.za),yc yd (s.qa),yc yd (s.qb),yc yd (s.qc),yc yd (s.qd),yc yd (s.tb),yc yd (s.xb),yc yd (s.yb),yc yd (s.zb),yc yd (s.ra),yc yd (s.rb),yc yd (s.rc),yc yd (s.rd)],yc yd n] [] [] (Y:=Unit) (fun y=>True) (fun y=> yc yd (Sh.chk s n)) (fun y=>[]) (fun y=>[]):=by
 refine zx Tryz.func12 rfl rfl rfl (fun c=> ?_)
 show RunC _ _ _ _ _ [(0,.agg #[yc yd (s.fi),yc yd (s.st),yc yd (s.ta),yc yd (s.xa),yc yd (s.ya),yc yd (s.za),yc yd (s.qa),yc yd (s.qb),yc yd (s.qc),yc yd (s.qd),yc yd (s.tb),yc yd (s.xb),yc yd (s.yb),yc yd (s.zb),yc yd (s.ra),yc yd (s.rb),yc yd (s.rc),yc yd (s.rd)]),(1,yc yd n)] [] []
 refine zj<|zc<|zJ rfl rfl (zda rfl rfl) (fun b1=> ?_)
 refine e_p (zh rfl)<|zk<|zf<|zj<|zIa (X:=Unit) (fun x=>True) (fun x=>[(28,.bool (decide (n<1∨64<n∨¬Sh.okN s))),(4,yc yd 0),(2,ye (some ⟨b1,0,none⟩)),(1,yc yd n)]) (fun x=>[boxA b1 29 (cS s)]) (fun x=>[]) ?_ ?_
 ·
  refine zc<|e_mv rfl<|e_p (zS rfl rfl)<|zsa rfl rfl (zva rfl) (fun g1=> ?_) (fun g1=> ?_)
  ·
   refine e_no<|e_no<|e_p (zU rfl rfl)<|e_mv rfl<|e_no<|e_no<|e_no<|e_no<|e_no<|e_no<|e_no<|e_no<|e_no<|e_no<|e_no<|e_no<|e_no<|e_p (zU rfl rfl)<|zk ?_
   exact zna () (show True from by first|trivial|omega|simp_all) ((.e rfl (congrArg Value.bool (by first|exact (decide_eq_true (Or.inl g1)).symm|exact (decide_eq_true (Or.inr (Or.inl g2))).symm|exact decide_eq_decide.2 ⟨fun k=>Or.inr (Or.inr k),fun k=>k.elim (fun e=>absurd e g1) (fun k=>k.elim (fun e=>absurd e g2) _root_.id)⟩)) (.of rfl)):SubM _ _) (ho:=((.c (i:=0) rfl .n):PickO _ _ _)) (.n:SelR _ _ _)
  ·
   refine e_mv rfl<|e_p (zZa rfl rfl)<|e_p (zU rfl rfl)<|zsa rfl rfl (zva rfl) (fun g2=> ?_) (fun g2=> ?_)
   ·
    refine e_no<|e_no<|e_no<|e_no<|e_no<|e_no<|e_no<|e_no<|e_no<|e_no<|e_no<|e_no<|e_no<|e_p (zU rfl rfl)<|zk ?_
    exact zna () (show True from by first|trivial|omega|simp_all) ((.e rfl (congrArg Value.bool (by first|exact (decide_eq_true (Or.inl g1)).symm|exact (decide_eq_true (Or.inr (Or.inl g2))).symm|exact decide_eq_decide.2 ⟨fun k=>Or.inr (Or.inr k),fun k=>k.elim (fun e=>absurd e g1) (fun k=>k.elim (fun e=>absurd e g2) _root_.id)⟩)) (.of rfl)):SubM _ _) (ho:=((.c (i:=0) rfl .n):PickO _ _ _)) (.n:SelR _ _ _)
   ·
    refine e_p (zg yk rfl sz3 rfl rfl)<|e_ru (ze 0 ty3 rfl rfl rfl)<|e_p (zg yk rfl sz3 rfl rfl)<|e_ru (ze 0 ty3 rfl rfl rfl)<|e_p (zg yk rfl sz27 rfl rfl)<|e_p (zg yh rfl sz3 rfl rfl)<|e_ru (ze 0 ty3 rfl rfl rfl)<|e_p (zg yk rfl sz27 rfl rfl)<|e_p (zg yh rfl sz3 rfl rfl)<|e_ru (ze 0 ty3 rfl rfl rfl)<|zJa rfl rfl (zQ (enc:=fun z:Int=>[yc yd z]) (ok:=InK .i64) (h1:=fun _=>rfl) (h2:=fun _=>rfl) (k:=4) yq inf3 rfl dd dd dd (.c (x:=s.fi) rfl rfl (fun _ _=>by exact zt.2 om) (.c (x:=s.st) rfl rfl (fun _ _=>by exact zt.2 om) (.c (x:=s.ta) rfl rfl (fun _ _=>by exact zt.2 om) (.c (x:=s.tb) rfl rfl (fun _ _=>by exact zt.2 om) .n))))) (fun b2 _=> ?_)
    refine zqa 0 rfl .z<|zV rfl rfl (.c rfl (.c rfl .n)) ce42 (zmb (p:=some ⟨b2,0,none⟩) (n:=4) (cap:=4) (l:=[s.fi,s.st,s.ta,s.tb]) (m:=1073741824) (hn:=cbd) (hm:=cbd)) (.c (j:=0) rfl .n)<|e_p (zKa rfl)<|e_p (zU rfl rfl)<|zk ?_
    exact zna () (show True from by first|trivial|omega|simp_all) ((.e rfl (congrArg Value.bool (by first|exact (decide_eq_true (Or.inl g1)).symm|exact (decide_eq_true (Or.inr (Or.inl g2))).symm|exact decide_eq_decide.2 ⟨fun k=>Or.inr (Or.inr k),fun k=>k.elim (fun e=>absurd e g1) (fun k=>k.elim (fun e=>absurd e g2) _root_.id)⟩)) (.of rfl)):SubM _ _) (ho:=((.c (i:=1) rfl .n):PickO _ _ _)) (.n:SelR _ _ _)
 ·
  rintro ⟨⟩ -
  try dsimp only
  refine zT rfl (fun h1=> ?_) (fun h1=> ?_)
  ·
   refine zj<|zc<|e_p (zh rfl)<|zk<|zf<|zR<|zq ?_
   exact zL yC () trivial (zD rfl) (by rw [Sh.chk_1 h1]) (ho:=(.n:PickO _ _ _)) (.n:SelR _ _ _)
  ·
   refine zB<|zf<|zj<|zj<|zc<|e_p (zg yk rfl sz27 rfl rfl)<|e_ru (zd 0 ty27 rfl rfl (.s2 (.t8 .nil)))<|e_p (zg yk rfl sz27 rfl rfl)<|e_ru (zd 0 ty27 rfl rfl (.s8 (.s2 (.t8 .nil))))<|zJa rfl rfl (zQ (enc:=fun z:Ep=>[yc yd z.tm,yc yd z.x,yc yd z.y,yc yd z.z,yc yd z.a,yc yd z.b,yc yd z.c,yc yd z.d]) (ok:=okEp .i64) (h1:=fun _=>rfl) (h2:=fun _=>rfl) (k:=2) yD inf27 rfl dd dd dd (.c (x:=(⟨s.ta,s.xa,s.ya,s.za,s.qa,s.qb,s.qc,s.qd⟩:Ep)) rfl rfl (fun _ _=>by exact ⟨zt.2 (by first|omega|decide|(dsimp only;omega)),zt.2 (by first|omega|decide|(dsimp only;omega)),zt.2 (by first|omega|decide|(dsimp only;omega)),zt.2 (by first|omega|decide|(dsimp only;omega)),zt.2 (by first|omega|decide|(dsimp only;omega)),zt.2 (by first|omega|decide|(dsimp only;omega)),zt.2 (by first|omega|decide|(dsimp only;omega)),zt.2 (by first|omega|decide|(dsimp only;omega))⟩) (.c (x:=(⟨s.tb,s.xb,s.yb,s.zb,s.ra,s.rb,s.rc,s.rd⟩:Ep)) rfl rfl (fun _ _=>by exact ⟨zt.2 (by first|omega|decide|(dsimp only;omega)),zt.2 (by first|omega|decide|(dsimp only;omega)),zt.2 (by first|omega|decide|(dsimp only;omega)),zt.2 (by first|omega|decide|(dsimp only;omega)),zt.2 (by first|omega|decide|(dsimp only;omega)),zt.2 (by first|omega|decide|(dsimp only;omega)),zt.2 (by first|omega|decide|(dsimp only;omega)),zt.2 (by first|omega|decide|(dsimp only;omega))⟩) .n))) (fun b3 _=> ?_)
   refine e_p (zea yD rfl)<|e_mv rfl<|zk<|zf<|zu<|zLa<|zW<|zj<|zc<|e_p (zS rfl rfl)<|zk<|zf<|zj<|zaa rfl rfl<|zB<|zf<|zj<|zu<|zj<|zc<|e_p (zja (j:=0) yD sz27 rfl rfl rfl (by first|omega|(simp;done)))<|r_vl rfl rfl (zPb 0 0 rfl ty27 rfl rfl (gD (d:=ep0) (by first|omega|(simp;done)))) (fun _ hok4=> ?_)
   obtain ⟨hok40,hok41,hok42,hok43,hok44,hok45,hok46,hok47⟩:=hok4
   replace hok40:=zt.1 hok40
   replace hok41:=zt.1 hok41
   replace hok42:=zt.1 hok42
   replace hok43:=zt.1 hok43
   replace hok44:=zt.1 hok44
   replace hok45:=zt.1 hok45
   replace hok46:=zt.1 hok46
   replace hok47:=zt.1 hok47
   refine zJ rfl rfl (zp zr27 rfl) (fun b5=> ?_)
   refine zl 0 rfl rfl rfl rfl rfl sz27 rfl (.t8 .nil) .z<|zk<|zf ?_
   have e6:((([(⟨s.ta,s.xa,s.ya,s.za,s.qa,s.qb,s.qc,s.qd⟩:Ep),(⟨s.tb,s.xb,s.yb,s.zb,s.ra,s.rb,s.rc,s.rd⟩:Ep)]).getD 0 ep0).tm:Int)=s.ta:=by rfl
   rw [e6]
   have e7:((([(⟨s.ta,s.xa,s.ya,s.za,s.qa,s.qb,s.qc,s.qd⟩:Ep),(⟨s.tb,s.xb,s.yb,s.zb,s.ra,s.rb,s.rc,s.rd⟩:Ep)]).getD 0 ep0).x:Int)=s.xa:=by rfl
   rw [e7]
   have e8:((([(⟨s.ta,s.xa,s.ya,s.za,s.qa,s.qb,s.qc,s.qd⟩:Ep),(⟨s.tb,s.xb,s.yb,s.zb,s.ra,s.rb,s.rc,s.rd⟩:Ep)]).getD 0 ep0).y:Int)=s.ya:=by rfl
   rw [e8]
   have e9:((([(⟨s.ta,s.xa,s.ya,s.za,s.qa,s.qb,s.qc,s.qd⟩:Ep),(⟨s.tb,s.xb,s.yb,s.zb,s.ra,s.rb,s.rc,s.rd⟩:Ep)]).getD 0 ep0).z:Int)=s.za:=by rfl
   rw [e9]
   have e10:((([(⟨s.ta,s.xa,s.ya,s.za,s.qa,s.qb,s.qc,s.qd⟩:Ep),(⟨s.tb,s.xb,s.yb,s.zb,s.ra,s.rb,s.rc,s.rd⟩:Ep)]).getD 0 ep0).a:Int)=s.qa:=by rfl
   rw [e10]
   have e11:((([(⟨s.ta,s.xa,s.ya,s.za,s.qa,s.qb,s.qc,s.qd⟩:Ep),(⟨s.tb,s.xb,s.yb,s.zb,s.ra,s.rb,s.rc,s.rd⟩:Ep)]).getD 0 ep0).b:Int)=s.qb:=by rfl
   rw [e11]
   have e12:((([(⟨s.ta,s.xa,s.ya,s.za,s.qa,s.qb,s.qc,s.qd⟩:Ep),(⟨s.tb,s.xb,s.yb,s.zb,s.ra,s.rb,s.rc,s.rd⟩:Ep)]).getD 0 ep0).c:Int)=s.qc:=by rfl
   rw [e12]
   have e13:((([(⟨s.ta,s.xa,s.ya,s.za,s.qa,s.qb,s.qc,s.qd⟩:Ep),(⟨s.tb,s.xb,s.yb,s.zb,s.ra,s.rb,s.rc,s.rd⟩:Ep)]).getD 0 ep0).d:Int)=s.qd:=by rfl
   rw [e13]
   refine zIa (X:=Unit) (fun x=>True) (fun x=>[(67,.bool (decide ((¬(Sh.wi 1048576 ([s.xa,s.ya,s.za])))∨(¬(Sh.wi 32768 ([s.qa,s.qb,s.qc,s.qd])))))),(6,ye (some ⟨b5,0,none⟩)),(38,.agg #[yc yd (s.ta),yc yd (s.xa),yc yd (s.ya),yc yd (s.za),yc yd (s.qa),yc yd (s.qb),yc yd (s.qc),yc yd (s.qd)]),(37,rowPtr (some ⟨b3,0,none⟩) (0*8)),(36,.bool true),(35,yc yd 0),(34,yc yd 2),(33,.slice (some ⟨b3,0,none⟩) 2 2),(4,yc yd 0),(2,ye (some ⟨b1,0,none⟩)),(1,yc yd n)]) (fun x=>[boxA b5 27 [yc yd (s.ta),yc yd (s.xa),yc yd (s.ya),yc yd (s.za),yc yd (s.qa),yc yd (s.qb),yc yd (s.qc),yc yd (s.qd)],rowA 27 (rI8 .i64) (some ⟨b3,0,none⟩) 2 ([(⟨s.ta,s.xa,s.ya,s.za,s.qa,s.qb,s.qc,s.qd⟩:Ep),(⟨s.tb,s.xb,s.yb,s.zb,s.ra,s.rb,s.rc,s.rd⟩:Ep)]),boxA b1 29 (cS s)]) (fun x=>[]) ?_ ?_
   ·
    refine zc<|e_p (zg yh rfl sz23 rfl rfl)<|e_p (zg yw rfl sz3 rfl rfl)<|e_ru (ze 0 ty3 rfl rfl rfl)<|e_p (zg yh rfl sz23 rfl rfl)<|e_p (zg yw rfl sz3 rfl rfl)<|e_ru (ze 0 ty3 rfl rfl rfl)<|e_p (zg yh rfl sz23 rfl rfl)<|e_p (zg yw rfl sz3 rfl rfl)<|e_ru (ze 0 ty3 rfl rfl rfl)<|zJa rfl rfl (zQ (enc:=fun z:Int=>[yc yd z]) (ok:=InK .i64) (h1:=fun _=>rfl) (h2:=fun _=>rfl) (k:=3) yq inf3 rfl dd dd dd (.c (x:=s.xa) rfl rfl (fun _ _=>by exact zt.2 om) (.c (x:=s.ya) rfl rfl (fun _ _=>by exact zt.2 om) (.c (x:=s.za) rfl rfl (fun _ _=>by exact zt.2 om) .n)))) (fun b14 _=> ?_)
    refine zqa 0 rfl .z<|zV rfl rfl (.c rfl (.c rfl .n)) ce42 (zmb (p:=some ⟨b14,0,none⟩) (n:=3) (cap:=3) (l:=[s.xa,s.ya,s.za]) (m:=1048576) (hn:=cbd) (hm:=cbd)) (.c (j:=0) rfl .n)<|e_p (zKa rfl)<|zsa rfl rfl (zva rfl) (fun h15=> ?_) (fun h15=> ?_)
    ·
     refine e_no<|e_no<|e_no<|e_no<|e_no<|e_no<|e_no<|e_no<|e_no<|e_no<|e_no<|e_no<|e_no<|e_no<|e_no<|e_p (zU rfl rfl)<|zk ?_
     exact zna () (show True from by first|trivial|omega|simp_all) ((.e rfl (congrArg Value.bool cbu) (.of rfl)):SubM _ _) (ho:=((.of [1,1,1] rfl):PickO _ _ _)) (.n:SelR _ _ _)
    ·
     refine e_p (zg yh rfl sz25 rfl rfl)<|e_p (zg yl rfl sz3 rfl rfl)<|e_ru (ze 1 ty3 rfl rfl rfl)<|e_p (zg yh rfl sz25 rfl rfl)<|e_p (zg yl rfl sz3 rfl rfl)<|e_ru (ze 1 ty3 rfl rfl rfl)<|e_p (zg yh rfl sz25 rfl rfl)<|e_p (zg yl rfl sz3 rfl rfl)<|e_ru (ze 1 ty3 rfl rfl rfl)<|e_p (zg yh rfl sz25 rfl rfl)<|e_p (zg yl rfl sz3 rfl rfl)<|e_ru (ze 1 ty3 rfl rfl rfl)<|zJa rfl rfl (zQ (enc:=fun z:Int=>[yc yd z]) (ok:=InK .i64) (h1:=fun _=>rfl) (h2:=fun _=>rfl) (k:=4) yq inf3 rfl dd dd dd (.c (x:=s.qa) rfl rfl (fun _ _=>by exact zt.2 om) (.c (x:=s.qb) rfl rfl (fun _ _=>by exact zt.2 om) (.c (x:=s.qc) rfl rfl (fun _ _=>by exact zt.2 om) (.c (x:=s.qd) rfl rfl (fun _ _=>by exact zt.2 om) .n))))) (fun b16 _=> ?_)
     refine zqa 0 rfl .z<|zV rfl rfl (.c rfl (.c rfl .n)) ce42 (zmb (p:=some ⟨b16,0,none⟩) (n:=4) (cap:=4) (l:=[s.qa,s.qb,s.qc,s.qd]) (m:=32768) (hn:=cbd) (hm:=cbd)) (.c (j:=0) rfl .n)<|e_p (zKa rfl)<|e_p (zU rfl rfl)<|zk ?_
     exact zna () (show True from by first|trivial|omega|simp_all) ((.e rfl (congrArg Value.bool cbu) (.of rfl)):SubM _ _) (ho:=((.of [2,2,2] rfl):PickO _ _ _)) (.n:SelR _ _ _)
   ·
    rintro ⟨⟩ -
    try dsimp only
    refine zT rfl (fun hA=> ?_) (fun hA=> ?_)
    ·
     have hbad:¬Sh.okA s:=fun k=>hA.elim (fun e=>e k.1) (fun e=>e k.2)
     refine zj<|zc<|e_p (zh rfl)<|zk<|zf<|zR<|zca<|zq<|zq<|zca<|zq ?_
     exact zL yC () trivial (zD rfl) (by rw [Sh.chk_2 h1 hbad]) (ho:=(.n:PickO _ _ _)) (.n:SelR _ _ _)
    ·
     have hokA:Sh.okA s:=⟨Decidable.not_not.1 (fun e=>hA (Or.inl e)),Decidable.not_not.1 (fun e=>hA (Or.inr e))⟩
     refine zB<|zK<|zf<|zc<|e_p (zI (z:=1) rfl rfl (w64 dd))<|e_mv rfl<|zk<|zga<|zW<|zj<|zc<|e_p (zS rfl rfl)<|zk<|zf<|zj<|zaa rfl rfl<|zB<|zf<|zj<|zu<|zj<|zc<|e_p (zja (j:=1) yD sz27 rfl rfl rfl (by first|omega|(simp;done)))<|r_vl rfl rfl (zPb 1 1 rfl ty27 rfl rfl (gD (d:=ep0) (by first|omega|(simp;done)))) (fun _ hok17=> ?_)
     obtain ⟨hok170,hok171,hok172,hok173,hok174,hok175,hok176,hok177⟩:=hok17
     replace hok170:=zt.1 hok170
     replace hok171:=zt.1 hok171
     replace hok172:=zt.1 hok172
     replace hok173:=zt.1 hok173
     replace hok174:=zt.1 hok174
     replace hok175:=zt.1 hok175
     replace hok176:=zt.1 hok176
     replace hok177:=zt.1 hok177
     refine zJ rfl rfl (zp zr27 rfl) (fun b18=> ?_)
     refine zl 0 rfl rfl rfl rfl rfl sz27 rfl (.t8 .nil) .z<|zk<|zf ?_
     have e19:((([(⟨s.ta,s.xa,s.ya,s.za,s.qa,s.qb,s.qc,s.qd⟩:Ep),(⟨s.tb,s.xb,s.yb,s.zb,s.ra,s.rb,s.rc,s.rd⟩:Ep)]).getD 1 ep0).tm:Int)=s.tb:=by rfl
     rw [e19]
     have e20:((([(⟨s.ta,s.xa,s.ya,s.za,s.qa,s.qb,s.qc,s.qd⟩:Ep),(⟨s.tb,s.xb,s.yb,s.zb,s.ra,s.rb,s.rc,s.rd⟩:Ep)]).getD 1 ep0).x:Int)=s.xb:=by rfl
     rw [e20]
     have e21:((([(⟨s.ta,s.xa,s.ya,s.za,s.qa,s.qb,s.qc,s.qd⟩:Ep),(⟨s.tb,s.xb,s.yb,s.zb,s.ra,s.rb,s.rc,s.rd⟩:Ep)]).getD 1 ep0).y:Int)=s.yb:=by rfl
     rw [e21]
     have e22:((([(⟨s.ta,s.xa,s.ya,s.za,s.qa,s.qb,s.qc,s.qd⟩:Ep),(⟨s.tb,s.xb,s.yb,s.zb,s.ra,s.rb,s.rc,s.rd⟩:Ep)]).getD 1 ep0).z:Int)=s.zb:=by rfl
     rw [e22]
     have e23:((([(⟨s.ta,s.xa,s.ya,s.za,s.qa,s.qb,s.qc,s.qd⟩:Ep),(⟨s.tb,s.xb,s.yb,s.zb,s.ra,s.rb,s.rc,s.rd⟩:Ep)]).getD 1 ep0).a:Int)=s.ra:=by rfl
     rw [e23]
     have e24:((([(⟨s.ta,s.xa,s.ya,s.za,s.qa,s.qb,s.qc,s.qd⟩:Ep),(⟨s.tb,s.xb,s.yb,s.zb,s.ra,s.rb,s.rc,s.rd⟩:Ep)]).getD 1 ep0).b:Int)=s.rb:=by rfl
     rw [e24]
     have e25:((([(⟨s.ta,s.xa,s.ya,s.za,s.qa,s.qb,s.qc,s.qd⟩:Ep),(⟨s.tb,s.xb,s.yb,s.zb,s.ra,s.rb,s.rc,s.rd⟩:Ep)]).getD 1 ep0).c:Int)=s.rc:=by rfl
     rw [e25]
     have e26:((([(⟨s.ta,s.xa,s.ya,s.za,s.qa,s.qb,s.qc,s.qd⟩:Ep),(⟨s.tb,s.xb,s.yb,s.zb,s.ra,s.rb,s.rc,s.rd⟩:Ep)]).getD 1 ep0).d:Int)=s.rd:=by rfl
     rw [e26]
     refine zIa (X:=Unit) (fun x=>True) (fun x=>[(67,.bool (decide ((¬(Sh.wi 1048576 ([s.xb,s.yb,s.zb])))∨(¬(Sh.wi 32768 ([s.ra,s.rb,s.rc,s.rd])))))),(6,ye (some ⟨b18,0,none⟩)),(38,.agg #[yc yd (s.tb),yc yd (s.xb),yc yd (s.yb),yc yd (s.zb),yc yd (s.ra),yc yd (s.rb),yc yd (s.rc),yc yd (s.rd)]),(37,rowPtr (some ⟨b3,0,none⟩) (1*8)),(36,.bool true),(35,yc yd 1),(68,yc yd 1),(34,yc yd 2),(33,.slice (some ⟨b3,0,none⟩) 2 2),(4,yc yd 0),(2,ye (some ⟨b1,0,none⟩)),(1,yc yd n)]) (fun x=>[boxA b18 27 [yc yd (s.tb),yc yd (s.xb),yc yd (s.yb),yc yd (s.zb),yc yd (s.ra),yc yd (s.rb),yc yd (s.rc),yc yd (s.rd)],boxA b5 27 [yc yd (s.ta),yc yd (s.xa),yc yd (s.ya),yc yd (s.za),yc yd (s.qa),yc yd (s.qb),yc yd (s.qc),yc yd (s.qd)],rowA 27 (rI8 .i64) (some ⟨b3,0,none⟩) 2 ([(⟨s.ta,s.xa,s.ya,s.za,s.qa,s.qb,s.qc,s.qd⟩:Ep),(⟨s.tb,s.xb,s.yb,s.zb,s.ra,s.rb,s.rc,s.rd⟩:Ep)]),boxA b1 29 (cS s)]) (fun x=>[]) ?_ ?_
     ·
      refine zc<|e_p (zg yh rfl sz23 rfl rfl)<|e_p (zg yw rfl sz3 rfl rfl)<|e_ru (ze 0 ty3 rfl rfl rfl)<|e_p (zg yh rfl sz23 rfl rfl)<|e_p (zg yw rfl sz3 rfl rfl)<|e_ru (ze 0 ty3 rfl rfl rfl)<|e_p (zg yh rfl sz23 rfl rfl)<|e_p (zg yw rfl sz3 rfl rfl)<|e_ru (ze 0 ty3 rfl rfl rfl)<|zJa rfl rfl (zQ (enc:=fun z:Int=>[yc yd z]) (ok:=InK .i64) (h1:=fun _=>rfl) (h2:=fun _=>rfl) (k:=3) yq inf3 rfl dd dd dd (.c (x:=s.xb) rfl rfl (fun _ _=>by exact zt.2 om) (.c (x:=s.yb) rfl rfl (fun _ _=>by exact zt.2 om) (.c (x:=s.zb) rfl rfl (fun _ _=>by exact zt.2 om) .n)))) (fun b27 _=> ?_)
      refine zqa 0 rfl .z<|zV rfl rfl (.c rfl (.c rfl .n)) ce42 (zmb (p:=some ⟨b27,0,none⟩) (n:=3) (cap:=3) (l:=[s.xb,s.yb,s.zb]) (m:=1048576) (hn:=cbd) (hm:=cbd)) (.c (j:=0) rfl .n)<|e_p (zKa rfl)<|zsa rfl rfl (zva rfl) (fun h28=> ?_) (fun h28=> ?_)
      ·
       refine e_no<|e_no<|e_no<|e_no<|e_no<|e_no<|e_no<|e_no<|e_no<|e_no<|e_no<|e_no<|e_no<|e_no<|e_no<|e_p (zU rfl rfl)<|zk ?_
       exact zna () (show True from by first|trivial|omega|simp_all) ((.e rfl (congrArg Value.bool cbu) (.of rfl)):SubM _ _) (ho:=((.of [1,1,1,1] rfl):PickO _ _ _)) (.n:SelR _ _ _)
      ·
       refine e_p (zg yh rfl sz25 rfl rfl)<|e_p (zg yl rfl sz3 rfl rfl)<|e_ru (ze 1 ty3 rfl rfl rfl)<|e_p (zg yh rfl sz25 rfl rfl)<|e_p (zg yl rfl sz3 rfl rfl)<|e_ru (ze 1 ty3 rfl rfl rfl)<|e_p (zg yh rfl sz25 rfl rfl)<|e_p (zg yl rfl sz3 rfl rfl)<|e_ru (ze 1 ty3 rfl rfl rfl)<|e_p (zg yh rfl sz25 rfl rfl)<|e_p (zg yl rfl sz3 rfl rfl)<|e_ru (ze 1 ty3 rfl rfl rfl)<|zJa rfl rfl (zQ (enc:=fun z:Int=>[yc yd z]) (ok:=InK .i64) (h1:=fun _=>rfl) (h2:=fun _=>rfl) (k:=4) yq inf3 rfl dd dd dd (.c (x:=s.ra) rfl rfl (fun _ _=>by exact zt.2 om) (.c (x:=s.rb) rfl rfl (fun _ _=>by exact zt.2 om) (.c (x:=s.rc) rfl rfl (fun _ _=>by exact zt.2 om) (.c (x:=s.rd) rfl rfl (fun _ _=>by exact zt.2 om) .n))))) (fun b29 _=> ?_)
       refine zqa 0 rfl .z<|zV rfl rfl (.c rfl (.c rfl .n)) ce42 (zmb (p:=some ⟨b29,0,none⟩) (n:=4) (cap:=4) (l:=[s.ra,s.rb,s.rc,s.rd]) (m:=32768) (hn:=cbd) (hm:=cbd)) (.c (j:=0) rfl .n)<|e_p (zKa rfl)<|e_p (zU rfl rfl)<|zk ?_
       exact zna () (show True from by first|trivial|omega|simp_all) ((.e rfl (congrArg Value.bool cbu) (.of rfl)):SubM _ _) (ho:=((.of [2,2,2,2] rfl):PickO _ _ _)) (.n:SelR _ _ _)
     ·
      rintro ⟨⟩ -
      try dsimp only
      refine zT rfl (fun hA=> ?_) (fun hA=> ?_)
      ·
       have hbad:¬Sh.okB s:=fun k=>hA.elim (fun e=>e k.1) (fun e=>e k.2)
       refine zj<|zc<|e_p (zh rfl)<|zk<|zf<|zR<|zca<|zq<|zq<|zca<|zq ?_
       exact zL yC () trivial (zD rfl) (by rw [Sh.chk_3 h1 hokA hbad]) (ho:=(.n:PickO _ _ _)) (.n:SelR _ _ _)
      ·
       have hokB:Sh.okB s:=⟨Decidable.not_not.1 (fun e=>hA (Or.inl e)),Decidable.not_not.1 (fun e=>hA (Or.inr e))⟩
       refine zB<|zK<|zf<|zc<|e_p (zI (z:=2) rfl rfl (w64 dd))<|e_mv rfl<|zk<|zga<|zW<|zj<|zc<|e_p (zS rfl rfl)<|zk<|zf<|zj<|zua rfl rfl<|zla<|zn<|zn<|zC<|zf<|zj<|zIa (X:=Unit) (fun x=>True) (fun x=>[(89,.bool (decide (((s.qa=0∧s.qb=0∧s.qc=0∧s.qd=0)∨(s.ra=0∧s.rb=0∧s.rc=0∧s.rd=0))∨(s.tb≤s.ta)))),(4,yc yd 0),(2,ye (some ⟨b1,0,none⟩)),(1,yc yd n)]) (fun x=>[boxA b18 27 [yc yd (s.tb),yc yd (s.xb),yc yd (s.yb),yc yd (s.zb),yc yd (s.ra),yc yd (s.rb),yc yd (s.rc),yc yd (s.rd)],boxA b5 27 [yc yd (s.ta),yc yd (s.xa),yc yd (s.ya),yc yd (s.za),yc yd (s.qa),yc yd (s.qb),yc yd (s.qc),yc yd (s.qd)],rowA 27 (rI8 .i64) (some ⟨b3,0,none⟩) 2 ([(⟨s.ta,s.xa,s.ya,s.za,s.qa,s.qb,s.qc,s.qd⟩:Ep),(⟨s.tb,s.xb,s.yb,s.zb,s.ra,s.rb,s.rc,s.rd⟩:Ep)]),boxA b1 29 (cS s)]) (fun x=>[]) ?_ ?_
       ·
        refine zc<|e_p (zg yk rfl sz27 rfl rfl)<|e_p (zg yh rfl sz25 rfl rfl)<|e_ru (zd 3 ty25 rfl rfl (.s4 (.s2 (.t4 .nil))))<|e_p (zv zr25 rfl yl (.c sz3 (.c sz3 (.c sz3 (.c sz3 .n)))) .n .n)<|e_p (zBb (p:=s.qa=0∧s.qb=0∧s.qc=0∧s.qd=0) kr rfl rfl (zAb yl kr (zQa dd ty3 rfl rfl (zPa yn) (zQa dd ty3 rfl rfl (zPa yn) (zQa dd ty3 rfl rfl (zPa yn) (zQa dd ty3 rfl rfl (zPa yn) zOc))))) (by simp [Bool.decide_and]))<|zsa rfl rfl (zva rfl) (fun h30=> ?_) (fun h30=> ?_)
        ·
         refine e_no<|e_no<|e_no<|e_no<|e_no<|e_p (zU rfl rfl)<|e_mv rfl<|e_no<|e_no<|e_no<|e_no<|e_no<|e_no<|e_no<|e_p (zU rfl rfl)<|zk ?_
         exact zna () (show True from by first|trivial|omega|simp_all) ((.e rfl (congrArg Value.bool cbu) (.of rfl)):SubM _ _) (ho:=((.of [0,0,0,0] rfl):PickO _ _ _)) (.n:SelR _ _ _)
        ·
         refine e_p (zg yk rfl sz27 rfl rfl)<|e_p (zg yh rfl sz25 rfl rfl)<|e_ru (zd 3 ty25 rfl rfl (.s8 (.s4 (.s2 (.t4 .nil)))))<|e_p (zv zr25 rfl yl (.c sz3 (.c sz3 (.c sz3 (.c sz3 .n)))) .n .n)<|e_p (zBb (p:=s.ra=0∧s.rb=0∧s.rc=0∧s.rd=0) kr rfl rfl (zAb yl kr (zQa dd ty3 rfl rfl (zPa yn) (zQa dd ty3 rfl rfl (zPa yn) (zQa dd ty3 rfl rfl (zPa yn) (zQa dd ty3 rfl rfl (zPa yn) zOc))))) (by simp [Bool.decide_and]))<|e_p (zU rfl rfl)<|zsa rfl rfl (zva rfl) (fun h31=> ?_) (fun h31=> ?_)
         ·
          refine e_no<|e_no<|e_no<|e_no<|e_no<|e_no<|e_no<|e_p (zU rfl rfl)<|zk ?_
          exact zna () (show True from by first|trivial|omega|simp_all) ((.e rfl (congrArg Value.bool cbu) (.of rfl)):SubM _ _) (ho:=((.of [0,0,0,0] rfl):PickO _ _ _)) (.n:SelR _ _ _)
         ·
          refine e_p (zg yk rfl sz27 rfl rfl)<|e_p (zg yh rfl sz3 rfl rfl)<|e_ru (ze 3 ty3 rfl rfl rfl)<|e_p (zg yk rfl sz27 rfl rfl)<|e_p (zg yh rfl sz3 rfl rfl)<|e_ru (ze 3 ty3 rfl rfl rfl)<|e_p (zIc rfl rfl)<|e_p (zU rfl rfl)<|zk ?_
          exact zna () (show True from by first|trivial|omega|simp_all) ((.e rfl (congrArg Value.bool cbu) (.of rfl)):SubM _ _) (ho:=((.of [0,0,0,0] rfl):PickO _ _ _)) (.n:SelR _ _ _)
       ·
        rintro ⟨⟩ -
        try dsimp only
        refine zT rfl (fun h4=> ?_) (fun h4=> ?_)
        ·
         refine zj<|zc<|e_p (zh rfl)<|zk<|zf<|zR<|zq ?_
         exact zL yC () trivial (zD rfl) (by rw [Sh.chk_4 h1 hokA hokB (or_assoc.1 h4)]) (ho:=(.n:PickO _ _ _)) (.n:SelR _ _ _)
        ·
         have hok:Sh.Ok s:=Sh.ok_of (Decidable.not_not.1 fun e=>h1 (Or.inr (Or.inr e))) hokA hokB
         refine zB<|zf<|zj<|zj<|zc<|e_mv rfl<|e_mv rfl<|zk<|zf<|zu<|zza (X:=Nat) (fun x:Nat=>x≤n.toNat∧∀j:Nat,j<x→¬Sh.z4 (Sh.rot s (j:Int))) (fun x=>[(91,yc yd ((x:Nat):Int)),(90,yc yd n),(2,ye (some ⟨b1,0,none⟩))]) (fun x=>[boxA b18 27 [yc yd (s.tb),yc yd (s.xb),yc yd (s.yb),yc yd (s.zb),yc yd (s.ra),yc yd (s.rb),yc yd (s.rc),yc yd (s.rd)],boxA b5 27 [yc yd (s.ta),yc yd (s.xa),yc yd (s.ya),yc yd (s.za),yc yd (s.qa),yc yd (s.qb),yc yd (s.qc),yc yd (s.qd)],rowA 27 (rI8 .i64) (some ⟨b3,0,none⟩) 2 ([(⟨s.ta,s.xa,s.ya,s.za,s.qa,s.qb,s.qc,s.qd⟩:Ep),(⟨s.tb,s.xb,s.yb,s.zb,s.ra,s.rb,s.rc,s.rd⟩:Ep)]),boxA b1 29 (cS s)]) (fun x=>[]) (fun x:Nat=>n.toNat - x) 0 (show 0≤n.toNat∧∀j:Nat,j<0→¬Sh.z4 (Sh.rot s (j:Int)) from by exact ⟨Nat.zero_le _,fun j h=>by omega⟩) ((.e rfl (by first|rfl|(congr 1;omega)|simp_all) (.c rfl (.c rfl .n))):SubM _ _) (ho:=((.of [0,0,0,0] rfl):PickO _ _ _)) (.n:SelR _ _ _) ?_
         rintro r hI
         replace hI:r≤n.toNat∧∀j:Nat,j<r→¬Sh.z4 (Sh.rot s (j:Int)):=hI
         try dsimp only
         obtain ⟨hr,hall⟩:=hI
         refine zj<|zc<|e_p (zS rfl rfl)<|zk<|zf<|zj<|zT rfl (fun h32=> ?_) (fun h32=> ?_)
         ·
          refine zB<|zf<|zj<|zu<|zj<|zc<|e_mv rfl<|e_p (zh rfl)<|zk<|zf<|zj<|zc<|e_ru (zd 3 ty29 rfl rfl (.t8 (.t8 (.t2 .nil))))<|e_mv rfl<|zV rfl rfl (.c rfl (.c rfl .n)) ce43 (zRb (s:=s) (r:=((r:Nat):Int)) (hok:=cbd) (hr:=cbd)) (.n)<|e_p (zv zr25 rfl yl (.c sz3 (.c sz3 (.c sz3 (.c sz3 .n)))) .n .n)<|e_p (zBb (p:=(Sh.rot s ((r:Nat):Int)).1=0∧(Sh.rot s ((r:Nat):Int)).2.1=0∧(Sh.rot s ((r:Nat):Int)).2.2.1=0∧(Sh.rot s ((r:Nat):Int)).2.2.2=0) kr rfl rfl (zAb yl kr (zQa dd ty3 rfl rfl (zPa yn) (zQa dd ty3 rfl rfl (zPa yn) (zQa dd ty3 rfl rfl (zPa yn) (zQa dd ty3 rfl rfl (zPa yn) zOc))))) (by simp [Bool.decide_and]))<|zk<|zf<|zT rfl (fun hz4=> ?_) (fun hz4=> ?_)
          ·
           refine zj<|zc<|e_p (zh rfl)<|zk<|zf<|zR<|zca<|zq<|zq<|zca<|zq ?_
           exact zL yC () trivial (zD rfl) (by rw [Sh.chk_5 h1 hokA hokB (fun k=>h4 (or_assoc.2 k)) ⟨r,by omega,hz4⟩]) (ho:=(.n:PickO _ _ _)) (.n:SelR _ _ _)
          ·
           refine zB<|zK<|zf<|zc<|e_p (zI (z:=(((r+1):Nat):Int)) rfl rfl (w64 om))<|e_mv rfl<|zk<|zwa (r+1) (show (r+1)≤n.toNat∧∀j:Nat,j<(r+1)→¬Sh.z4 (Sh.rot s (j:Int)) from by refine ⟨by omega,fun j hj=> ?_⟩;by_cases e:j=r;(subst e;exact hz4);exact hall j om) (by show n.toNat - (r+1)<n.toNat - r;omega) ((.of rfl):SubM _ _) (ho:=((.of [0,0,0,0] rfl):PickO _ _ _)) (.n:SelR _ _ _)
         ·
          refine zla<|zn<|zn<|zC<|zf<|zj<|zc<|e_p (zh rfl)<|zk<|zf<|zR ?_
          exact zL yC () trivial (zD rfl) (by rw [Sh.chk_6 h1 hokA hokB (fun k=>h4 (or_assoc.2 k)) (fun ⟨j,hj,k⟩=>hall j om k)]) (ho:=(.n:PickO _ _ _)) (.n:SelR _ _ _)
end Go.Proofs.YtjeahiahjgifgaaGreatDoor.Sp
namespace Go.Proofs.YtjeahiahjgifgaaGreatDoor.Sp
open Go
set_option linter.unusedVariables false
set_option maxRecDepth 100000
set_option maxHeartbeats 8000000
theorem zHb {p:Option Addr} {n:Nat} {cap:Nat} {l:List Int} (hn:l.length=n):Con ym 135 [.slice p n cap] [] [slF (rI .u32) p cap l] (Y:=Unit) (fun y=>True) (fun y=> .slice p ((yt l).length) cap) (fun y=>[]) (fun y=>[slF (rI .u32) p cap (yt l)]):=by
 refine zx Tryz.func135 rfl rfl rfl (fun c=> ?_)
 show RunC _ _ _ _ _ [(0,.slice p n cap)] [] [slF (rI .u32) p cap l]
 refine zpa 0 rfl (fun hL0=> ?_)
 refine zj<|zc<|e_p (zh rfl)<|zk<|zf<|zj<|zu<|zza (X:=Nat) (fun x:Nat=>x≤l.length∧yt (l.take x)=yt l) (fun x=>[(0,.slice p x cap),(2,.slice none 0 0)]) (fun x=>[]) (fun x=>[slF (rI .u32) p cap (l.take x),slF (rI .u32) p cap l]) (fun x:Nat=>x) n (show n≤l.length∧yt (l.take n)=yt l from by exact ⟨by omega,by rw [List.take_of_length_le om]⟩) ((.c rfl (.c rfl .n)):SubM _ _) (ho:=(.n:PickO _ _ _)) ((.e (j:=0) rfl (by rw [List.take_of_length_le om]) (.c (j:=0) rfl .n)):SelR _ _ _) ?_
 rintro k hI
 replace hI:k≤l.length∧yt (l.take k)=yt l:=hI
 try dsimp only
 obtain ⟨hk,hT⟩:=hI
 have hlt:(l.take k).length=k:=by rw [List.length_take];omega
 refine zj<|zIa (X:=Unit) (fun x=>True) (fun x=>[(14,.bool (decide (0<k∧l.getD (k - 1) 0=0))),(0,.slice p k cap),(2,.slice none 0 0)]) (fun x=>[]) (fun x=>[slF (rI .u32) p cap (l.take k),slF (rI .u32) p cap l]) ?_ ?_
 ·
  refine zc<|e_mv rfl<|e_p (zea yg rfl)<|e_p (zZa rfl rfl)<|zsa rfl rfl (zva rfl) (fun h1=> ?_) (fun h1=> ?_)
  ·
   refine e_mv rfl<|e_mv rfl<|e_p (zea yg rfl)<|e_p (zma (z:=(((k:Nat):Int) - 1)) rfl rfl (w64 om))<|zP (x0:=((l.take k).getD ((((k:Nat):Int) - 1).toNat) 0)) 0 ((((k:Nat):Int) - 1).toNat) rfl yg sz131 rfl rfl rfl cbs rfl om (gD (d:=0) om) (fun b2 o3 hok4=> ?_)
   replace hok4:=zE.1 hok4
   refine e_ru (zA (j:=0) 0 ty131 rfl rfl rfl rfl)<|e_p (zMa rfl rfl)<|e_p (zU rfl rfl)<|zk ?_
   exact zna () (show True from by first|trivial|omega|simp_all) ((.e rfl (congrArg Value.bool (by rw [Big.getD_take l om];have h1:0<k:=om;have h2:((k:Int) - 1).toNat=k - 1:=om;simp [h1,h2])) (.c rfl (.c rfl .n))):SubM _ _) (ho:=(.n:PickO _ _ _)) ((.of [1,2] rfl):SelR _ _ _)
  ·
   refine e_no<|e_no<|e_no<|e_no<|e_no<|e_no<|e_no<|e_p (zU rfl rfl)<|zk ?_
   exact zna () (show True from by first|trivial|omega|simp_all) ((.e rfl (congrArg Value.bool (by have h1:¬0<k:=om;simp [h1])) (.c rfl (.c rfl .n))):SubM _ _) (ho:=(.n:PickO _ _ _)) ((.of [0,1] rfl):SelR _ _ _)
 ·
  rintro ⟨⟩ -
  try dsimp only
  refine zT rfl (fun hc=> ?_) (fun hc=> ?_)
  ·
   refine zB<|zf<|zu<|zc<|e_mv rfl<|e_mv rfl<|e_p (zea yg rfl)<|e_p (zma (z:=(((k - 1):Nat):Int)) rfl rfl (w64 om))<|e_p (zQb (hi:=(k - 1)) yg sz131 rfl (.s rfl) (.inr ⟨_,rfl⟩) om)<|zxc (zGc 0 rfl (k - 1) om) (fun _ _=> ?_)
   refine e_p (zh rfl)<|zk<|zK<|zwa (k - 1) (show (k - 1)≤l.length∧yt (l.take (k - 1))=yt l from by exact ⟨by omega,by rw [← hT,Big.trim_go l hc.1 hk hc.2]⟩) (by show k - 1<k;omega) ((.e rfl (by first|rfl|(congr 1;omega)|simp_all) (.c rfl .n)):SubM _ _) (ho:=(.n:PickO _ _ _)) ((.e (j:=0) rfl (by rw [List.take_take];congr 2;omega) (.c (j:=2) rfl .n)):SelR _ _ _)
  ·
   refine zla<|zn<|zn<|zC<|zf<|zj<|zc<|e_mv rfl<|e_p (zh rfl)<|zk<|zf<|zR ?_
   have hfin:yt l=l.take k:=by rw [← hT];exact Big.trim_stop l hk hc
   exact zL Tryz.results135 () trivial (zD rfl) (by rw [hfin,hlt]) (ho:=(.n:PickO _ _ _)) ((.e (j:=0) rfl (by rw [hfin]) .n):SelR _ _ _)
theorem zke {p:Option Addr} {n:Nat} {cap:Nat} {l:List Int} {i:Nat} (hn:l.length=n) (hi:i≤4611686018427387904):Con ym 143 [.slice p n cap,yc yd ((i:Nat):Int)] [] [slF (rI .u32) p cap l] (Y:=Unit) (fun y=>True) (fun y=> .int .u32 (l.getD i 0)) (fun y=>[]) (fun y=>[]):=by
 refine zx Tryz.func143 rfl rfl rfl (fun c=> ?_)
 show RunC _ _ _ _ _ [(0,.slice p n cap),(1,yc yd ((i:Nat):Int))] [] [slF (rI .u32) p cap l]
 refine zpa 0 rfl (fun hL0=> ?_)
 refine zj<|zc<|e_p (zh rfl)<|zk<|zf<|zj<|zj<|zc<|e_mv rfl<|e_mv rfl<|e_p (zea yg rfl)<|e_p (zS rfl rfl)<|zk<|zf<|zT rfl (fun h1=> ?_) (fun h1=> ?_)
 ·
  refine zj<|zc<|e_mv rfl<|e_mv rfl<|zP (x0:=(l.getD i 0)) 0 i rfl yg sz131 rfl rfl rfl cbs rfl rfl (gD (d:=0) om) (fun b2 o3 hok4=> ?_)
  replace hok4:=zE.1 hok4
  refine e_ru (zA (j:=0) 0 ty131 rfl rfl rfl rfl)<|e_p (zh rfl)<|zk<|zf<|zR<|zq ?_
  exact zL Tryz.results143 () trivial (zD rfl) rfl (ho:=(.n:PickO _ _ _)) (.n:SelR _ _ _)
 ·
  refine zB<|zf<|zj<|zc<|e_p (zh rfl)<|zk<|zf<|zR ?_
  exact zL Tryz.results143 () trivial (zD rfl) (by rw [show l.getD i 0=0 by simp [List.getD,List.getElem?_eq_none (show l.length≤i by omega)]]) (ho:=(.n:PickO _ _ _)) (.n:SelR _ _ _)
theorem zof {p1:Option Addr} {n1:Nat} {c1:Nat} {l1:List Int} {p2:Option Addr} {n2:Nat} {c2:Nat} {l2:List Int} (hn1:l1.length=n1) (hn2:l2.length=n2) (hb1:n1≤1099511627776) (hb2:n2≤1099511627776) (ho1:yx l1) (ho2:yx l2):Con ym 136 [.slice p1 n1 c1,.slice p2 n2 c2] [] [slF (rI .u32) p1 c1 l1,slF (rI .u32) p2 c2 l2] (Y:=(Option Addr)×Nat) (fun y=>True) (fun y=> .slice (y.1) ((yf (yj l1+yj l2).toNat).length) (y.2)) (fun y=>[]) (fun y=>[slF (rI .u32) (y.1) (y.2) (yf (yj l1+yj l2).toNat)]):=by
 refine zx Tryz.func136 rfl rfl rfl (fun c=> ?_)
 show RunC _ _ _ _ _ [(0,.slice p1 n1 c1),(1,.slice p2 n2 c2)] [] [slF (rI .u32) p1 c1 l1,slF (rI .u32) p2 c2 l2]
 refine zpa 0 rfl (fun hL0=> ?_)
 refine zpa 1 rfl (fun hL1=> ?_)
 refine zj<|zc<|e_p (zh rfl)<|zk<|zf<|zj<|zc<|e_mv rfl<|e_p (zea yg rfl)<|e_mv rfl<|e_p (zea yg rfl)<|e_p (v:= yc yd (((max n1 n2):Nat):Int)) (by rw [show ((((max n1 n2):Nat):Int):Int)=max ((n1:Nat):Int) ((n2:Nat):Int) by omega];exact zzd rfl rfl)<|e_p (zI (z:=((((max n1 n2)+1):Nat):Int)) rfl rfl (w64 om))<|zJa rfl rfl (zFb (r:=rI .u32) (k:=((max n1 n2)+1)) (x0:=0) (γ0:=()) yg inf131 rfl rfl rfl rfl om om rfl (fun _ _=>by exact zE.2 dd) dd) (fun b1 _=> ?_)
 refine e_p (zh rfl)<|zk<|zf<|zj<|zc<|e_p (zh rfl)<|zk<|zf<|zj<|zj<|zc<|e_mv rfl<|e_p (zea yg rfl)<|e_mv rfl<|zk<|zf<|zu<|zza (X:=Nat×(List Int)×Int) (fun x:Nat×(List Int)×Int=>x.1≤max n1 n2+1∧x.2.1.length=x.1∧0≤x.2.2∧x.2.2≤1∧yx x.2.1∧yj x.2.1+yE x.1*x.2.2=yj (l1.take x.1)+yj (l2.take x.1)) (fun x=>[(6,.int .u32 (x.2.2)),(18,yc yd ((x.1:Nat):Int)),(17,yc yd ((((max n1 n2)+1):Nat):Int)),(5,.slice (some ⟨b1,0,none⟩) ((max n1 n2)+1) ((max n1 n2)+1)),(4,.slice none 0 0),(0,.slice p1 n1 c1),(1,.slice p2 n2 c2)]) (fun x=>[rowA 131 (rI .u32) (some ⟨b1,0,none⟩) ((max n1 n2)+1) (x.2.1++List.replicate (max n1 n2+1 - x.1) 0)]) (fun x=>[slF (rI .u32) p1 c1 l1,slF (rI .u32) p2 c2 l2]) (fun x:Nat×(List Int)×Int=>max n1 n2+1 - x.1) (0,[],0) (show 0≤max n1 n2+1∧([]).length=0∧0≤0∧0≤1∧yx ([])∧yj ([])+yE 0*0=yj (l1.take 0)+yj (l2.take 0) from by exact ⟨by omega,rfl,by decide,by decide,Big.okL_nil,by simp [yj]⟩) ((.c rfl (.e rfl (by first|rfl|(congr 1;omega)|simp_all) (.of rfl))):SubM _ _) (ho:=((.e (i:=0) rfl (by simp) .n):PickO _ _ _)) ((.of [0,1] rfl):SelR _ _ _) ?_
 rintro ⟨i,os,cy⟩ hI
 replace hI:i≤max n1 n2+1∧os.length=i∧0≤cy∧cy≤1∧yx os∧yj os+yE i*cy=yj (l1.take i)+yj (l2.take i):=hI
 try dsimp only
 obtain ⟨hi,hol,hc0,hc1,hok,hv⟩:=hI
 have hg1:=yz ho1 i
 have hg2:=yz ho2 i
 refine zj<|zc<|e_p (zS rfl rfl)<|zk<|zf<|zj<|zT rfl (fun h2=> ?_) (fun h2=> ?_)
 ·
  refine zB<|zf<|zj<|zu<|zj<|zc<|e_mv rfl<|e_p (zh rfl)<|zk<|zf<|zj<|zc<|e_mv rfl<|e_mv rfl<|zV rfl rfl (.c rfl (.c rfl .n)) ce143 (zke (p:=p1) (n:=n1) (cap:=c1) (l:=l1) (i:=i) (hn:=ass) (hi:=cbb)) (.c (j:=0) rfl .n)<|e_mv rfl<|e_mv rfl<|zV rfl rfl (.c rfl (.c rfl .n)) ce143 (zke (p:=p2) (n:=n2) (cap:=c2) (l:=l2) (i:=i) (hn:=ass) (hi:=cbb)) (.c (j:=1) rfl .n)<|e_p (zI (z:=(l1.getD i 0+l2.getD i 0)) rfl rfl (wu32 om))<|e_mv rfl<|e_p (zI (z:=((l1.getD i 0+l2.getD i 0)+cy)) rfl rfl (wu32 om))<|e_p (zh rfl)<|zk<|zf<|zj<|zc<|e_p (zh rfl)<|zk<|zf<|zj<|zj<|zc<|e_mv rfl<|e_p (zpb rfl rfl)<|zk<|zf<|zT rfl (fun hc=> ?_) (fun hc=> ?_)
  ·
   refine zc<|e_mv rfl<|e_p (zma (z:=(((l1.getD i 0+l2.getD i 0)+cy) - 1000000000)) rfl rfl (wu32 om))<|e_p (zh rfl)<|e_p (zh rfl)<|zk<|zf<|zc<|e_mv rfl<|e_mv rfl<|e_mv rfl<|e_p (zja (j:=i) yg sz131 rfl rfl rfl om)<|zWa 0 rfl rfl rfl (zha (j:=i) (x0:=(((l1.getD i 0+l2.getD i 0)+cy) - 1000000000)) (γ0:=()) rfl rfl (by first|omega|(rw [List.length_map];omega)|(simp only [List.length_set];omega)|(simp;done)|(simp;omega)) rfl rfl sz131 (fun _ _=>by exact zE.2 om)) (fun _=> .z) (fun _ _=> ?_)
   refine zk<|zK<|zf<|zc<|e_p (zI (z:=(((i+1):Nat):Int)) rfl rfl (w64 om))<|e_mv rfl<|zk<|zwa ((i+1),os++[l1.getD i 0+l2.getD i 0+cy - 1000000000],1) (show (i+1)≤max n1 n2+1∧(os++[l1.getD i 0+l2.getD i 0+cy - 1000000000]).length=(i+1)∧0≤1∧1≤1∧yx (os++[l1.getD i 0+l2.getD i 0+cy - 1000000000])∧yj (os++[l1.getD i 0+l2.getD i 0+cy - 1000000000])+yE (i+1)*1=yj (l1.take (i+1))+yj (l2.take (i+1)) from by exact ⟨by omega,by simp [hol],by decide,by decide,yI hok om om,Big.plus_step hol hv om⟩) (by show max n1 n2+1 - (i+1)<max n1 n2+1 - i;omega) ((.of rfl):SubM _ _) (ho:=((.e (i:=0) rfl (by rw [Big.set_pad hol om]) .n):PickO _ _ _)) ((.of [0,1] rfl):SelR _ _ _)
  ·
   refine zB<|zf<|zc<|e_mv rfl<|e_mv rfl<|e_mv rfl<|e_p (zja (j:=i) yg sz131 rfl rfl rfl om)<|zWa 0 rfl rfl rfl (zha (j:=i) (x0:=((l1.getD i 0+l2.getD i 0)+cy)) (γ0:=()) rfl rfl (by first|omega|(rw [List.length_map];omega)|(simp only [List.length_set];omega)|(simp;done)|(simp;omega)) rfl rfl sz131 (fun _ _=>by exact zE.2 om)) (fun _=> .z) (fun _ _=> ?_)
   refine zk<|zK<|zf<|zc<|e_p (zI (z:=(((i+1):Nat):Int)) rfl rfl (w64 om))<|e_mv rfl<|zk<|zwa ((i+1),os++[l1.getD i 0+l2.getD i 0+cy],0) (show (i+1)≤max n1 n2+1∧(os++[l1.getD i 0+l2.getD i 0+cy]).length=(i+1)∧0≤0∧0≤1∧yx (os++[l1.getD i 0+l2.getD i 0+cy])∧yj (os++[l1.getD i 0+l2.getD i 0+cy])+yE (i+1)*0=yj (l1.take (i+1))+yj (l2.take (i+1)) from by exact ⟨by omega,by simp [hol],by decide,by decide,yI hok om om,Big.plus_step hol hv om⟩) (by show max n1 n2+1 - (i+1)<max n1 n2+1 - i;omega) ((.of rfl):SubM _ _) (ho:=((.e (i:=0) rfl (by rw [Big.set_pad hol om]) .n):PickO _ _ _)) ((.of [0,1] rfl):SelR _ _ _)
 ·
  have e3:os++List.replicate (max n1 n2+1 - i) 0=os:=by rw [show max n1 n2+1 - i=0 by omega];simp
  rw [e3]
  have hfin:=Big.plus_fin ho1 ho2 hok hc0 hol om hv
  have htr:yt os=yf (yj l1+yj l2).toNat:=by rw [Big.digs_valL hok,hfin]
  refine zla<|zn<|zn<|zC<|zf<|zj<|zc<|e_mv rfl<|zqa 0 rfl .z<|zG rfl rfl (.c rfl .n) ce135 (zHb (p:=some ⟨b1,0,none⟩) (n:=((max n1 n2)+1)) (cap:=((max n1 n2)+1)) (l:=os) (hn:=cbb)) (.c (j:=0) rfl .n) ?_
  rintro ⟨⟩ -
  dsimp only [aq,nq,cq]
  refine e_p (zh rfl)<|zk<|zf<|zR ?_
  exact zL Tryz.results136 ((some ⟨b1,0,none⟩),((max n1 n2)+1)) trivial (zD rfl) (by rw [htr]) (ho:=(.n:PickO _ _ _)) ((.e (j:=0) rfl (by rw [htr]) .n):SelR _ _ _)
theorem zJd {a:Nat} {b:Nat} {p1:Option Addr} {c1:Nat} {p2:Option Addr} {c2:Nat} (hb1:(yf (a)).length≤1099511627776) (hb2:(yf (b)).length≤1099511627776):Con ym 136 [.slice (p1) ((yf (a)).length) (c1),.slice (p2) ((yf (b)).length) (c2)] [] [slF (rI .u32) (p1) (c1) (yf (a)),slF (rI .u32) (p2) (c2) (yf (b))] (Y:=(Option Addr)×(Nat)) (fun y=>True) (fun y=> .slice (y.1) ((yf (a+b)).length) (y.2)) (fun y=>[]) (fun y=>[slF (rI .u32) (y.1) (y.2) (yf (a+b))]):=by
  have h:= @zof p1 (yf a).length c1 (yf a) p2 (yf b).length c2 (yf b) rfl rfl hb1 hb2 (yB a) (yB b)
  rw [yF,yF,show ((a:Int)+(b:Int)).toNat=a+b by omega] at h
  exact h
theorem zmc {x:Int}:Con ym 132 [yc yd x] [] [] (Y:=Unit) (fun y=>True) (fun y=> .bool false) (fun y=>[]) (fun y=>[]):=by
 refine zx Tryz.func132 rfl rfl rfl (fun c=> ?_)
 show RunC _ _ _ _ _ [(0,yc yd x)] [] []
 refine zj<|zc<|e_p (zh rfl)<|zk<|zf<|zj<|zc<|e_mv rfl<|e_mv rfl<|e_p (zvb rfl rfl)<|e_p (zh rfl)<|zk<|zf<|zR ?_
 exact zL Tryz.results132 () trivial (zD rfl) (by simp) (ho:=(.n:PickO _ _ _)) (.n:SelR _ _ _)
theorem znc {x:Int}:Con ym 142 [.int .u32 x] [] [] (Y:=Unit) (fun y=>True) (fun y=> .bool false) (fun y=>[]) (fun y=>[]):=by
 refine zx Tryz.func142 rfl rfl rfl (fun c=> ?_)
 show RunC _ _ _ _ _ [(0,.int .u32 x)] [] []
 refine zj<|zc<|e_p (zh rfl)<|zk<|zf<|zj<|zc<|e_mv rfl<|e_mv rfl<|e_p (zvb rfl rfl)<|e_p (zh rfl)<|zk<|zf<|zR ?_
 exact zL Tryz.results142 () trivial (zD rfl) (by simp) (ho:=(.n:PickO _ _ _)) (.n:SelR _ _ _)
theorem zQc {u:Int} {v:Int}:Con ym 117 [yc yd u,yc yd v] [] [] (Y:=Unit) (fun y=>True) (fun y=> yc yd (yJ u v)) (fun y=>[]) (fun y=>[]):=by
 refine zx Tryz.func117 rfl rfl rfl (fun c=> ?_)
 show RunC _ _ _ _ _ [(0,yc yd u),(1,yc yd v)] [] []
 refine zj<|zc<|e_p (zh rfl)<|zk<|zf<|zj<|zc<|e_mv rfl<|zV rfl rfl (.c rfl .n) ce132 (zmc (x:=u)) (.n)<|e_p (zh rfl)<|zk<|zf<|zj<|zc<|e_mv rfl<|zV rfl rfl (.c rfl .n) ce132 (zmc (x:=v)) (.n)<|e_p (zh rfl)<|zk<|zf<|zj<|zj<|zc<|e_mv rfl<|zk<|zf<|zua rfl rfl<|zB<|zf<|zj<|zj<|zc<|e_mv rfl<|zk<|zf<|zua rfl rfl<|zB<|zf<|zj<|zj<|zc<|e_mv rfl<|e_mv rfl<|e_p (zS rfl rfl)<|zk<|zf<|zT rfl (fun h1=> ?_) (fun h1=> ?_)
 ·
  refine zj<|zc<|e_p (zh rfl)<|zk<|zf<|zR<|zq ?_
  exact zL Tryz.results117 () trivial (zD rfl) (by rw [Big.cmp_lt om]) (ho:=(.n:PickO _ _ _)) (.n:SelR _ _ _)
 ·
  refine zB<|zf<|zj<|zj<|zc<|e_mv rfl<|e_mv rfl<|e_p (zZa rfl rfl)<|zk<|zf<|zT rfl (fun h2=> ?_) (fun h2=> ?_)
  ·
   refine zj<|zc<|e_p (zh rfl)<|zk<|zf<|zR<|zq ?_
   exact zL Tryz.results117 () trivial (zD rfl) (by rw [Big.cmp_gt om]) (ho:=(.n:PickO _ _ _)) (.n:SelR _ _ _)
  ·
   refine zB<|zf<|zj<|zc<|e_p (zh rfl)<|zk<|zf<|zR ?_
   exact zL Tryz.results117 () trivial (zD rfl) (by rw [show yJ u v=0 by simp [yJ];omega]) (ho:=(.n:PickO _ _ _)) (.n:SelR _ _ _)
theorem zbe {u:Int} {v:Int}:Con ym 134 [.int .u32 u,.int .u32 v] [] [] (Y:=Unit) (fun y=>True) (fun y=> yc yd (yJ u v)) (fun y=>[]) (fun y=>[]):=by
 refine zx Tryz.func134 rfl rfl rfl (fun c=> ?_)
 show RunC _ _ _ _ _ [(0,.int .u32 u),(1,.int .u32 v)] [] []
 refine zj<|zc<|e_p (zh rfl)<|zk<|zf<|zj<|zc<|e_mv rfl<|zV rfl rfl (.c rfl .n) ce142 (znc (x:=u)) (.n)<|e_p (zh rfl)<|zk<|zf<|zj<|zc<|e_mv rfl<|zV rfl rfl (.c rfl .n) ce142 (znc (x:=v)) (.n)<|e_p (zh rfl)<|zk<|zf<|zj<|zj<|zc<|e_mv rfl<|zk<|zf<|zua rfl rfl<|zB<|zf<|zj<|zj<|zc<|e_mv rfl<|zk<|zf<|zua rfl rfl<|zB<|zf<|zj<|zj<|zc<|e_mv rfl<|e_mv rfl<|e_p (zS rfl rfl)<|zk<|zf<|zT rfl (fun h1=> ?_) (fun h1=> ?_)
 ·
  refine zj<|zc<|e_p (zh rfl)<|zk<|zf<|zR<|zq ?_
  exact zL Tryz.results134 () trivial (zD rfl) (by rw [Big.cmp_lt om]) (ho:=(.n:PickO _ _ _)) (.n:SelR _ _ _)
 ·
  refine zB<|zf<|zj<|zj<|zc<|e_mv rfl<|e_mv rfl<|e_p (zZa rfl rfl)<|zk<|zf<|zT rfl (fun h2=> ?_) (fun h2=> ?_)
  ·
   refine zj<|zc<|e_p (zh rfl)<|zk<|zf<|zR<|zq ?_
   exact zL Tryz.results134 () trivial (zD rfl) (by rw [Big.cmp_gt om]) (ho:=(.n:PickO _ _ _)) (.n:SelR _ _ _)
  ·
   refine zB<|zf<|zj<|zc<|e_p (zh rfl)<|zk<|zf<|zR ?_
   exact zL Tryz.results134 () trivial (zD rfl) (by rw [show yJ u v=0 by simp [yJ];omega]) (ho:=(.n:PickO _ _ _)) (.n:SelR _ _ _)
theorem back_u32 {b:Nat} {p:Option Addr} {n cap:Nat} {l:List Int} (hn:l.length=n):Back ym 141 [ye (some ⟨b,0,none⟩)] [atF b 0 [.slice p n cap],slF (rI .u32) p cap l] n (fun k=>[yc yd ((k:Nat):Int),.int .u32 (l.getD k 0)]):=by
  refine back_intro Tryz.func141 rfl rfl rfl (fun l0 c X Y φ ψ OO RR OS RS H x0 hx0=> ?_)
  show RunC _ _ _ _ _ [(0,.func (.yield l0) #[] #[]),(1,ye (some ⟨b,0,none⟩))] (OO x0) (atF b 0 [.slice p n cap] :: slF (rI .u32) p cap l :: RR x0)
  refine zpa 1 rfl (fun hL=> ?_)
  refine zj<|zc<|e_ru (zA (j:=0) 0 ty40 rfl rfl rfl rfl)<|e_p (zea yg rfl)<|e_p (zma (z:=(((n:Nat):Int) - 1)) rfl rfl (w64 om))<|e_p (zh rfl)<|zk<|zf<|zu<|zDe (X:=X×Nat) (fun z=>φ z.1 z.2∧z.2≤n) (fun z=>[(3,yc yd (((z.2:Nat):Int) - 1)),(1,ye (some ⟨b,0,none⟩)),(0,.func (.yield l0) #[] #[])]) (fun z=>OO z.1) (fun z=>atF b 0 [.slice p n cap] :: slF (rI .u32) p cap l :: RR z.1) (fun z=>z.2) (x0,n) ⟨hx0,Nat.le_refl _⟩ (.c rfl (.c rfl (.c rfl .n)):SubM _ _) (fun w m=>m) ?_
  rintro ⟨x,k⟩ ⟨hx,hk⟩
  dsimp only at hx hk
  try dsimp only
  refine zj<|zj<|zc<|e_mv rfl<|e_p (zpb rfl rfl)<|zk<|zf<|zT rfl (fun h=> ?_) (fun h=> ?_)
  · refine zB ?_
    refine zf ?_
    obtain ⟨j,rfl⟩:∃j,k=j+1:=⟨k - 1,by omega⟩
    rw [show (((j+1:Nat):Int) - 1)=(j:Int) by omega]
    refine zj<|zu<|zj<|zc<|e_mv rfl<|e_mv rfl<|e_ru (zA (j:=0) 0 ty40 rfl rfl rfl rfl)<|e_mv rfl<|zP (x0:=l.getD j 0) 1 j rfl yg sz131 rfl rfl rfl hn rfl rfl (gD (d:=0) om) (fun b2 o3 hok=> ?_)
    refine e_ru (zA (j:=0) 0 ty131 rfl rfl rfl rfl)<|zEf (X:=X) (Y:=Y) (φ:=fun x'=>φ x' j) (ψ:=ψ) (OO:=OO) (RR:=fun x'=>[atF b 0 [.slice p n cap],slF (rI .u32) p cap l]++RR x') (OS:=OS) (RS:=RS) (vs:=[yc yd ((j:Nat):Int),.int .u32 (l.getD j 0)]) rfl rfl rfl (.c rfl (.c rfl .n)) (fun w m=>H x j w om hx (m.weaken fun h g s r a=>⟨h,g,s,r.2,Hp.le_refl _,Hp.le_refl _,a,fun _ _ e=> .inl e⟩)) (fun x' hx'=> ?_) (fun y hy=> ?_)
    · refine e_p (zic rfl) ?_
      refine zk<|zf<|zua rfl rfl<|zB<|zK<|zf<|zc<|e_mv rfl<|e_p (zma (z:=((j:Int) - 1)) rfl rfl (w64 om))<|e_p (zh rfl)<|zk ?_
      exact zCf (x',j) ⟨hx',by show j≤n;omega⟩ (by show j<j+1;omega) (.c rfl (.c rfl (.c rfl .n)):SubM _ _) (fun w m=>m)
    · refine e_p (zic rfl) ?_
      refine zk<|zf<|zaa rfl rfl<|zR<|zca<|zq<|zq<|zca ?_
      exact zVd rfl y hy (fun w m=>m)
  · have hk0 : k = 0 := by omega
    subst hk0
    refine zla<|zn<|zn<|zC<|p_endI ?_
    exact zUd rfl x hx (fun w m=>m)
theorem zSb {p:Option Addr} {n:Nat} {cap:Nat}:Con ym 133 [.slice p n cap] [] [] (Y:=Nat) (fun y=>True) (fun y=> .func (.func 141) #[] #[ye (some ⟨y,0,none⟩)]) (fun y=>[]) (fun y=>[atF y 0 [.slice p n cap]]):=by
 refine zx Tryz.func133 rfl rfl rfl (fun c=> ?_)
 show RunC _ _ _ _ _ [(0,.slice p n cap)] [] []
 refine zj<|zc<|zJ rfl rfl (zda rfl rfl) (fun b1=> ?_)
 refine e_p (zh rfl)<|zk<|zf<|zj<|zc<|e_p (zcc .n (.c rfl .n))<|e_p (zh rfl)<|zk<|zf<|zR<|zHe 0 rfl .z ?_
 exact zL Tryz.results133 b1 trivial (zD rfl) rfl (ho:=(.n:PickO _ _ _)) ((.c (j:=0) rfl .n):SelR _ _ _)
theorem zdc {a:Nat} {b:Nat} {p1:Option Addr} {c1:Nat} {p2:Option Addr} {c2:Nat}:Con ym 118 [.slice p1 ((yf a).length) c1,.slice p2 ((yf b).length) c2] [] [slF (rI .u32) p1 c1 (yf a),slF (rI .u32) p2 c2 (yf b)] (Y:=Unit) (fun y=>True) (fun y=> yc yd (yJ (a:Int) (b:Int))) (fun y=>[]) (fun y=>[]):=by
 refine ztc Tryz.func118 rfl rfl rfl (fun c=> ?_)
 show RunC _ _ _ _ _ [(0,.slice p1 ((yf a).length) c1),(1,.slice p2 ((yf b).length) c2)] [] [slF (rI .u32) p1 c1 (yf a),slF (rI .u32) p2 c2 (yf b)]
 refine zpa 0 rfl (fun hL0=> ?_)
 refine zpa 1 rfl (fun hL1=> ?_)
 refine zj<|zc<|zJ rfl rfl (zda rfl rfl) (fun b1=> ?_)
 refine zJ rfl rfl (zp zr3 rfl) (fun b2=> ?_)
 refine zk<|zf<|zj<|zj<|zc<|e_mv rfl<|e_p (zea yg rfl)<|e_ru (ze 1 ty40 rfl rfl rfl)<|e_p (zea yg rfl)<|e_p (zvb rfl rfl)<|zk<|zf<|zT rfl (fun hlen=> ?_) (fun hlen=> ?_)
 ·
  refine zj<|zc<|e_mv rfl<|e_p (zea yg rfl)<|e_ru (ze 1 ty40 rfl rfl rfl)<|e_p (zea yg rfl)<|zV rfl rfl (.c rfl (.c rfl .n)) ce117 (zQc (u:=(((yf a).length:Nat):Int)) (v:=(((yf b).length:Nat):Int))) (.n)<|zl 0 rfl rfl rfl rfl rfl sz3 rfl (.take .nil) .z<|zk<|zf<|zR<|zq<|zIe ?_
  exact zL Tryz.results118 () trivial (zEb 0 ty3 rfl rfl rfl) (by rw [Big.cmp_len om]) (ho:=(.n:PickO _ _ _)) (.n:SelR _ _ _)
 ·
  replace hlen:(yf a).length=(yf b).length:=by omega
  refine zB<|zf<|zj<|zj<|zc<|e_mv rfl<|zG rfl rfl (.c rfl .n) ce133 (zSb (p:=p1) (n:=(yf a).length) (cap:=c1)) (.n) ?_
  rintro b3 -
  dsimp only [aq,nq,cq]
  refine zk<|zf<|zu<|zYd (fa:=[atF b3 0 [.slice p1 ((yf a).length) c1],slF (rI .u32) p1 c1 (yf a)]) (N:=((yf a).length)) (encs:=fun k=>[yc yd ((k:Nat):Int),.int .u32 ((yf a).getD k 0)]) rfl ce141 (back_u32 cbs) (fun _=>rfl) rfl (X:=Unit) (Y:=Unit) (fun x k=>k≤(yf a).length∧(yf a).drop k=(yf b).drop k) (fun y=>True) (fun x=>[boxA b2 3 [yc yd 0],boxA b1 40 [.slice p2 ((yf b).length) c2]]) (fun x=>[slF (rI .u32) p2 c2 (yf b)]) (fun y=>[boxA b2 3 [yc yd (yJ (a:Int) (b:Int))],boxA b1 40 [.slice p2 ((yf b).length) c2]]) (fun y=>[atF b3 0 [.slice p1 ((yf a).length) c1],slF (rI .u32) p1 c1 (yf a),slF (rI .u32) p2 c2 (yf b)]) (fun k=>[(6,.int .u32 ((yf a).getD k 0)),(5,yc yd ((k:Nat):Int)),(20,.int .u32 ((yf a).getD k 0)),(19,yc yd ((k:Nat):Int)),(18,.func (.func 141) #[] #[ye (some ⟨b3,0,none⟩)]),(17,.slice p1 ((yf a).length) c1),(11,.bool (decide ((((yf a).length:Nat):Int)≠(((yf b).length:Nat):Int)))),(10,yc yd (((yf b).length:Nat):Int)),(9,.slice p2 ((yf b).length) c2),(8,yc yd (((yf a).length:Nat):Int)),(7,.slice p1 ((yf a).length) c1),(4,ye (some ⟨b2,0,none⟩)),(3,ye (some ⟨b1,0,none⟩)),(0,.slice p1 ((yf a).length) c1),(1,.slice p2 ((yf b).length) c2)]) () (show ((yf a).length)≤(yf a).length∧(yf a).drop ((yf a).length)=(yf b).drop ((yf a).length) from by exact ⟨Nat.le_refl _,by rw [List.drop_length,hlen,List.drop_length]⟩) (ho:=((.of [0,0] rfl):PickO _ _ _)) ((.of [0,1,2] rfl):SelR _ _ _) ?_ ?_ ?_ ?_
  ·
   intro l k O' R' Q' hP
   refine zj<|zc<|e_p (zh rfl)<|zk<|zf<|zc<|e_p (zh rfl)<|zk ?_
   exact hP
  ·
   rintro l4 D5 o6 o7 ⟨⟩ k hkN hI
   replace hI:(k+1)≤(yf a).length∧(yf a).drop (k+1)=(yf b).drop (k+1):=hI
   try dsimp only
   have hg1:=yz (yB a) k
   have hg2:=yz (yB b) k
   refine zu<|zj<|zc<|e_mv rfl<|e_ru (ze 3 ty40 rfl rfl rfl)<|e_mv rfl<|zP (x0:=((yf b).getD k 0)) 2 k rfl yg sz131 rfl rfl rfl cbs rfl rfl (gD (d:=0) om) (fun b8 o9 hok10=> ?_)
   replace hok10:=zE.1 hok10
   refine e_ru (zA (j:=0) 0 ty131 rfl rfl rfl rfl)<|e_p (zvb rfl rfl)<|zk<|zf<|zT rfl (fun hne=> ?_) (fun hne=> ?_)
   ·
    refine zj<|zc<|e_mv rfl<|e_ru (ze 3 ty40 rfl rfl rfl)<|e_mv rfl<|zP (x0:=((yf b).getD k 0)) 3 k rfl yg sz131 rfl rfl rfl cbs rfl rfl (gD (d:=0) om) (fun b11 o12 hok13=> ?_)
    replace hok13:=zE.1 hok13
    refine e_ru (zA (j:=0) 0 ty131 rfl rfl rfl rfl)<|zV rfl rfl (.c rfl (.c rfl .n)) ce134 (zbe (u:=((yf a).getD k 0)) (v:=((yf b).getD k 0))) (.n)<|zl 2 rfl rfl rfl rfl rfl sz3 rfl (.take .nil) (.s (.s .z))<|zk<|zf<|zR<|zca ?_
    exact zXd () (show True from by first|trivial|omega) (ho:=((.c (i:=0) rfl (.c (i:=0) rfl (.e (i:=0) rfl (by rw [Big.cmp_at hlen om hI.2 hne]) (.c (i:=0) rfl .n)))):PickO _ _ _)) ((.of [2,3,4] rfl):SelR _ _ _)
   ·
    refine zB<|zK ?_
    exact zWd () (show k≤(yf a).length∧(yf a).drop k=(yf b).drop k from by exact ⟨by omega,Big.drop_more om om hI.2 (Decidable.not_not.1 hne)⟩) (ho:=((.of [0,0,0,0] rfl):PickO _ _ _)) ((.of [1,2,3] rfl):SelR _ _ _)
  ·
   rintro D14 ⟨⟩ hI
   replace hI:0≤(yf a).length∧(yf a).drop 0=(yf b).drop 0:=hI
   try dsimp only
   have heq:(yf a)=(yf b):=by simpa using hI.2
   have hab:=Big.cmp_eq heq
   refine zK<|zf<|zj<|zc<|zl 1 rfl rfl rfl rfl rfl sz3 rfl (.take .nil) (.s .z)<|zk<|zf<|zR<|zje 0 rfl rfl ?_
   exact zL Tryz.results118 () trivial (zEb 0 ty3 rfl rfl rfl) (by rw [hab];simp [yJ]) (ho:=(.n:PickO _ _ _)) (.n:SelR _ _ _)
  ·
   rintro D15 ⟨⟩ hS
   replace hS:True:=hS
   try dsimp only
   refine zca<|zq<|zje 0 rfl rfl ?_
   exact zL Tryz.results118 () trivial (zEb 0 ty3 rfl rfl rfl) rfl (ho:=(.n:PickO _ _ _)) (.n:SelR _ _ _)
theorem zue {g:Int}:Con ym 128 [.int .u32 g] [] [] (Y:=Unit) (fun y=>True) (fun y=> .bool (decide (1000000000≤g))) (fun y=>[]) (fun y=>[]):=by
 refine zx Tryz.func128 rfl rfl rfl (fun c=> ?_)
 show RunC _ _ _ _ _ [(0,.int .u32 g)] [] []
 refine zj<|zc<|e_p (zh rfl)<|zk<|zf<|zj<|zc<|e_mv rfl<|e_p (zpb rfl rfl)<|e_p (zh rfl)<|zk<|zf<|zR ?_
 exact zL Tryz.results128 () trivial (zD rfl) rfl (ho:=(.n:PickO _ _ _)) (.n:SelR _ _ _)
theorem zad {p:Option Addr} {n:Nat} {cap:Nat} {l:List Int} (hn:l.length=n):Con ym 138 [.slice p n cap,.func (.func 128) #[] #[]] [] [slF (rI .u32) p cap l] (Y:=Int) (fun y=>(0≤y↔∃g∈l,1000000000≤g)) (fun y=> yc yd y) (fun y=>[]) (fun y=>[]):=by
 refine zx Tryz.func138 rfl rfl rfl (fun c=> ?_)
 show RunC _ _ _ _ _ [(0,.slice p n cap),(1,.func (.func 128) #[] #[])] [] [slF (rI .u32) p cap l]
 refine zpa 0 rfl (fun hL0=> ?_)
 refine zj<|zc<|e_p (zh rfl)<|zk<|zf<|zj<|zj<|zc<|e_mv rfl<|e_p (zea yg rfl)<|e_mv rfl<|zk<|zf<|zu<|zza (X:=Nat) (fun x:Nat=>x≤n∧∀j,j<x→l.getD j 0<1000000000) (fun x=>[(8,yc yd ((x:Nat):Int)),(7,yc yd ((n:Nat):Int)),(0,.slice p n cap),(1,.func (.func 128) #[] #[])]) (fun x=>[]) (fun x=>[slF (rI .u32) p cap l]) (fun x:Nat=>n - x) 0 (show 0≤n∧∀j,j<0→l.getD j 0<1000000000 from by exact ⟨by omega,fun j h=>by omega⟩) ((.e rfl (by first|rfl|(congr 1;omega)|simp_all) (.of rfl)):SubM _ _) (ho:=(.n:PickO _ _ _)) ((.c (j:=0) rfl .n):SelR _ _ _) ?_
 rintro i hI
 replace hI:i≤n∧∀j,j<i→l.getD j 0<1000000000:=hI
 try dsimp only
 obtain ⟨hi,hall⟩:=hI
 refine zj<|zc<|e_p (zS rfl rfl)<|zk<|zf<|zj<|zT rfl (fun h1=> ?_) (fun h1=> ?_)
 ·
  refine zB<|zf<|zj<|zu<|zj<|zc<|e_mv rfl<|e_p (zh rfl)<|zk<|zf<|zj<|zc<|e_mv rfl<|e_mv rfl<|e_mv rfl<|zP (x0:=(l.getD i 0)) 0 i rfl yg sz131 rfl rfl rfl cbs rfl rfl (gD (d:=0) om) (fun b2 o3 hok4=> ?_)
  replace hok4:=zE.1 hok4
  refine e_ru (zA (j:=0) 0 ty131 rfl rfl rfl rfl)<|zzf (first:=[]) (cap:=[]) rfl rfl rfl (.c rfl .n) ce128 (zue (g:=(l.getD i 0))) (.n) ?_
  rintro ⟨⟩ -
  dsimp only [aq,nq,cq]
  refine zk<|zf<|zT rfl (fun hb=> ?_) (fun hb=> ?_)
  ·
   refine zj<|zc<|e_mv rfl<|e_p (zh rfl)<|zk<|zf<|zR<|zca<|zq<|zq<|zca<|zq ?_
   exact zL Tryz.results138 ((i:Nat):Int) (⟨fun _=>⟨l.getD i 0,Big.getD_mem om,hb⟩,fun _=>by omega⟩) (zD rfl) rfl (ho:=(.n:PickO _ _ _)) (.n:SelR _ _ _)
  ·
   refine zB<|zK<|zf<|zc<|e_p (zI (z:=(((i+1):Nat):Int)) rfl rfl (w64 om))<|e_mv rfl<|zk<|zwa (i+1) (show (i+1)≤n∧∀j,j<(i+1)→l.getD j 0<1000000000 from by refine ⟨by omega,fun j hj=> ?_⟩;by_cases e:j=i;subst e;omega;exact hall j om) (by show n - (i+1)<n - i;omega) ((.of rfl):SubM _ _) (ho:=(.n:PickO _ _ _)) ((.c (j:=1) rfl .n):SelR _ _ _)
 ·
  refine zla<|zn<|zn<|zC<|zf<|zj<|zc<|e_p (zh rfl)<|zk<|zf<|zR ?_
  exact zL Tryz.results138 (-1) (⟨fun h=>by omega,fun ⟨g,hg,hb⟩=>by obtain ⟨j,hj,e⟩:=Big.mem_getD hg;have:=hall j om;omega⟩) (zD rfl) rfl (ho:=(.n:PickO _ _ _)) (.n:SelR _ _ _)
theorem zuc {p:Option Addr} {n:Nat} {cap:Nat} {l:List Int} (hn:l.length=n):Con ym 127 [.slice p n cap,.func (.func 128) #[] #[]] [] [slF (rI .u32) p cap l] (Y:=Unit) (fun y=>True) (fun y=> .bool (decide (∃g∈l,1000000000≤g))) (fun y=>[]) (fun y=>[]):=by
 refine zx Tryz.func127 rfl rfl rfl (fun c=> ?_)
 show RunC _ _ _ _ _ [(0,.slice p n cap),(1,.func (.func 128) #[] #[])] [] [slF (rI .u32) p cap l]
 refine zpa 0 rfl (fun hL0=> ?_)
 refine zj<|zc<|e_p (zh rfl)<|zk<|zf<|zj<|zc<|e_mv rfl<|e_mv rfl<|zG rfl rfl (.c rfl (.c rfl .n)) ce138 (zad (p:=p) (n:=n) (cap:=cap) (l:=l) (hn:=ass)) (.c (j:=0) rfl .n) ?_
 rintro r1 hr
 dsimp only [aq,nq,cq]
 replace hr:(0≤r1↔∃g∈l,1000000000≤g):=hr
 refine e_p (zpb rfl rfl)<|e_p (zh rfl)<|zk<|zf<|zR ?_
 exact zL Tryz.results127 () trivial (zD rfl) (congrArg Value.bool (decide_eq_decide.2 hr.symm)) (ho:=(.n:PickO _ _ _)) (.n:SelR _ _ _)
theorem zoc {s:Bool} {p:Option Addr} {n:Nat} {cap:Nat} {l:List Int} (hn:l.length=n):Con ym 111 [.agg #[.bool s,.slice p n cap]] [] [slF (rI .u32) p cap l] (Y:=Unit) (fun y=>True) (fun y=> .bool (decide (Big.canon s l))) (fun y=>[]) (fun y=>[]):=by
 refine zx Tryz.func111 rfl rfl rfl (fun c=> ?_)
 show RunC _ _ _ _ _ [(0,.agg #[.bool s,.slice p n cap])] [] [slF (rI .u32) p cap l]
 refine zpa 0 rfl (fun hL0=> ?_)
 refine zj<|zc<|zJ rfl rfl (zda rfl rfl) (fun b1=> ?_)
 refine e_p (zh rfl)<|zk<|zf<|zj<|zc<|e_p (zg yo rfl sz40 rfl rfl)<|e_ru (ze 0 ty40 rfl rfl rfl)<|e_p (zea yg rfl)<|e_p (zh rfl)<|zk<|zf<|zj<|zj<|zc<|e_mv rfl<|e_p (zMa rfl rfl)<|zk<|zf<|zT rfl (fun h0=> ?_) (fun h0=> ?_)
 ·
  refine zj<|zc<|e_p (zg yo rfl sz4 rfl rfl)<|e_ru (ze 0 ty4 rfl rfl rfl)<|e_p (zic rfl)<|e_p (zh rfl)<|zk<|zf<|zR<|zq ?_
  exact zL Tryz.results111 () trivial (zD rfl) (congrArg Value.bool (by have:l.length=0:=om;cases s <;> simp [Big.canon,this])) (ho:=(.n:PickO _ _ _)) (.n:SelR _ _ _)
 ·
  refine zB<|zf<|zIa (X:=Unit) (fun x=>True) (fun x=>[(2,.bool (decide (((l.getD ((((n:Nat):Int) - 1).toNat) 0)≠0)∧(¬(∃g∈l,1000000000≤g)))))]) (fun x=>[boxA b1 42 [.bool s,.slice p n cap]]) (fun x=>[slF (rI .u32) p cap l]) ?_ ?_
  ·
   refine zc<|e_p (zg yo rfl sz40 rfl rfl)<|e_ru (ze 0 ty40 rfl rfl rfl)<|e_mv rfl<|e_p (zma (z:=(((n:Nat):Int) - 1)) rfl rfl (w64 om))<|zP (x0:=(l.getD ((((n:Nat):Int) - 1).toNat) 0)) 0 ((((n:Nat):Int) - 1).toNat) rfl yg sz131 rfl rfl rfl cbs rfl om (gD (d:=0) om) (fun b2 o3 hok4=> ?_)
   replace hok4:=zE.1 hok4
   refine e_ru (zA (j:=0) 0 ty131 rfl rfl rfl rfl)<|e_p (zvb rfl rfl)<|zsa rfl rfl (zva rfl) (fun h5=> ?_) (fun h5=> ?_)
   ·
    refine e_p (zg yo rfl sz40 rfl rfl)<|e_ru (ze 0 ty40 rfl rfl rfl)<|zV rfl rfl (.c rfl (.c rfl .n)) ce127 (zuc (p:=p) (n:=n) (cap:=cap) (l:=l) (hn:=ass)) (.c (j:=1) rfl .n)<|e_p (zKa rfl)<|e_p (zU rfl rfl)<|e_p (zh rfl)<|zk ?_
    exact zna () (show True from by first|trivial|omega|simp_all) ((.e rfl (congrArg Value.bool (by simp_all)) .n):SubM _ _) (ho:=((.c (i:=0) rfl .n):PickO _ _ _)) ((.c (j:=1) rfl .n):SelR _ _ _)
   ·
    refine e_no<|e_no<|e_no<|e_no<|e_p (zU rfl rfl)<|e_p (zh rfl)<|zk ?_
    exact zna () (show True from by first|trivial|omega|simp_all) ((.e rfl (congrArg Value.bool (by simp_all)) .n):SubM _ _) (ho:=((.c (i:=0) rfl .n):PickO _ _ _)) ((.c (j:=1) rfl .n):SelR _ _ _)
  ·
   rintro ⟨⟩ -
   try dsimp only
   refine zR ?_
   exact zL Tryz.results111 () trivial (zD rfl) (congrArg Value.bool (decide_eq_decide.2 (by rw [Big.canon_more om,hn];have e:((n:Int) - 1).toNat=n - 1:=om;simp [e]))) (ho:=(.n:PickO _ _ _)) (.n:SelR _ _ _)
theorem zve {z:Int} {p:Option Addr} {cap:Nat}:Con ym 111 [.agg #[.bool (decide ((z)<0)),.slice (p) ((yf ((z).natAbs)).length) (cap)]] [] [slF (rI .u32) (p) (cap) (yf ((z).natAbs))] (Y:=Unit) (fun y=>True) (fun y=> .bool true) (fun y=>[]) (fun y=>[]):=by
  have h:= @zoc (decide ((z)<0)) p (yf (z).natAbs).length cap (yf (z).natAbs) rfl
  rw [decide_eq_true (Big.canon_digs z)] at h
  exact h
theorem zwe {w1:Wd} {x1:Int}:Con ym 111 [.agg #[w1.b,w1.l]] [] [zF w1 (x1)] (Y:=Unit) (fun y=>True) (fun y=> .bool true) (fun y=>[]) (fun y=>[]):=by
  exact zGd (fun p c=>zve)
theorem zXa {s:Bool} {p:Option Addr} {n:Nat} {cap:Nat} {l:List Int} (hn:l.length=n):Con ym 119 [.agg #[.bool s,.slice p n cap]] [] [slF (rI .u32) p cap l] (Y:=(Option Addr)×Nat) (fun y=>True) (fun y=> .slice (y.1) ((yf ((yp s l).natAbs)).length) (y.2)) (fun y=>[]) (fun y=>[slF (rI .u32) (y.1) (y.2) (yf ((yp s l).natAbs))]):=by
 refine zx Tryz.func119 rfl rfl rfl (fun c=> ?_)
 show RunC _ _ _ _ _ [(0,.agg #[.bool s,.slice p n cap])] [] [slF (rI .u32) p cap l]
 refine zpa 0 rfl (fun hL0=> ?_)
 refine zfb 0 rfl (fun hE0=> ?_)
 have hnn:Big.nn l:=fun g hg=>(zE.1 (hE0 g hg)).1
 refine zj<|zc<|zJ rfl rfl (zda rfl rfl) (fun b1=> ?_)
 refine e_p (zh rfl)<|zk<|zf<|zj<|zj<|zc<|e_ru (zd 0 ty42 rfl rfl (.t2 .nil))<|zV rfl rfl (.c rfl .n) ce111 (zoc (s:=s) (p:=p) (n:=n) (cap:=cap) (l:=l) (hn:=ass)) (.c (j:=0) rfl .n)<|e_p (zKa rfl)<|zk<|zf<|zT rfl (fun hc=> ?_) (fun hc=> ?_)
 ·
  refine zj<|zc<|e_p (zh rfl)<|zk<|zf<|zR<|zq ?_
  have hd:yf (yp s l).natAbs=[]:=by rw [yG hnn,if_neg hc]
  refine zCd (rI .u32) ?_
  exact zL Tryz.results119 (none,0) trivial (zD rfl) (by rw [hd];rfl) (ho:=(.n:PickO _ _ _)) ((.e (j:=0) rfl (by rw [hd]) .n):SelR _ _ _)
 ·
  refine zB<|zf<|zj<|zc<|e_p (zg yo rfl sz40 rfl rfl)<|e_ru (ze 0 ty40 rfl rfl rfl)<|e_p (zh rfl)<|zk<|zf<|zR ?_
  have hd:yf (yp s l).natAbs=l:=by rw [yG hnn,if_pos (Decidable.not_not.1 hc)]
  exact zL Tryz.results119 (p,cap) trivial (zD rfl) (by rw [hd,hn]) (ho:=(.n:PickO _ _ _)) ((.e (j:=0) rfl (by rw [hd]) .n):SelR _ _ _)
theorem zIb {z:Int} {p:Option Addr} {cap:Nat}:Con ym 119 [.agg #[.bool (decide ((z)<0)),.slice (p) ((yf ((z).natAbs)).length) (cap)]] [] [slF (rI .u32) (p) (cap) (yf ((z).natAbs))] (Y:=(Option Addr)×(Nat)) (fun y=>True) (fun y=> .slice (y.1) ((yf ((z).natAbs)).length) (y.2)) (fun y=>[]) (fun y=>[slF (rI .u32) (y.1) (y.2) (yf ((z).natAbs))]):=by
  have h:= @zXa (decide ((z)<0)) p (yf (z).natAbs).length cap (yf (z).natAbs) rfl
  rw [yA] at h
  exact h
theorem zpf {s:Bool} {p:Option Addr} {n:Nat} {cap:Nat} {l:List Int} (hn:l.length=n) (ho:yx l):Con ym 120 [.bool s,.slice p n cap] [] [slF (rI .u32) p cap l] (Y:=(Option Addr)×Nat) (fun y=>True) (fun y=> .agg #[.bool (decide ((yu s (yj l))<0)),.slice (y.1) ((yf ((yu s (yj l)).natAbs)).length) (y.2)]) (fun y=>[]) (fun y=>[slF (rI .u32) (y.1) (y.2) (yf ((yu s (yj l)).natAbs))]):=by
 refine zx Tryz.func120 rfl rfl rfl (fun c=> ?_)
 show RunC _ _ _ _ _ [(0,.bool s),(1,.slice p n cap)] [] [slF (rI .u32) p cap l]
 refine zpa 0 rfl (fun hL0=> ?_)
 have htr:yt l=yf (yu s (yj l)).natAbs:=by rw [Big.sg_abs (Big.valL_nonneg ho),Big.digs_valL ho]
 refine zj<|zc<|zJ rfl rfl (zp zr42 rfl) (fun b1=> ?_)
 refine zk<|zf<|zj<|zc<|e_mv rfl<|zG rfl rfl (.c rfl .n) ce135 (zHb (p:=p) (n:=n) (cap:=cap) (l:=l) (hn:=ass)) (.c (j:=0) rfl .n) ?_
 rintro ⟨⟩ -
 dsimp only [aq,nq,cq]
 refine e_p (zh rfl)<|zk<|zf<|zj<|zj<|zc<|e_mv rfl<|e_p (zea yg rfl)<|e_p (zMa rfl rfl)<|zk<|zf<|zT rfl (fun h0=> ?_) (fun h0=> ?_)
 ·
  refine zj<|zc<|e_p (zv zr42 rfl yo (.c sz4 (.c sz40 .n)) .n .n)<|zl 0 rfl rfl rfl rfl rfl sz42 rfl (.t2 .nil) .z<|zk<|zf<|zR<|zq ?_
  have hz:yj l=0:=Big.trim_zero ho om
  refine zCd (rI .u32) ?_
  exact zL Tryz.results120 (none,0) trivial (zr 0 ty42 rfl rfl (.t2 .nil)) (by rw [hz,Big.sg_zero];rfl) (ho:=(.n:PickO _ _ _)) ((.e (j:=0) rfl (by rw [hz,Big.sg_zero];rfl) .n):SelR _ _ _)
 ·
  refine zB<|zf<|zj<|zc<|e_mv rfl<|e_mv rfl<|e_p (zv zr42 rfl yo (.c sz4 (.c sz40 .n)) (.c rfl (.c rfl .n)) (.c rfl rfl rfl (.take .nil) (.c rfl rfl rfl (.skip (.take .nil)) .n)))<|zl 0 rfl rfl rfl rfl rfl sz42 rfl (.t2 .nil) .z<|zk<|zf<|zR ?_
  have hp:0<yj l:=Big.valL_pos ho (fun e=>h0 (by rw [e];rfl))
  exact zL Tryz.results120 (p,cap) trivial (zr 0 ty42 rfl rfl (.t2 .nil)) (by rw [Big.sg_pos hp,htr]) (ho:=(.n:PickO _ _ _)) ((.e (j:=0) rfl (by rw [htr]) .n):SelR _ _ _)
theorem zHa {s:Bool} {a:Nat} {p:Option Addr} {cap:Nat}:Con ym 120 [.bool (s),.slice (p) ((yf (a)).length) (cap)] [] [slF (rI .u32) (p) (cap) (yf (a))] (Y:=(Option Addr)×(Nat)) (fun y=>True) (fun y=> .agg #[.bool (decide ((yu s (a:Int))<0)),.slice (y.1) ((yf ((yu s (a:Int)).natAbs)).length) (y.2)]) (fun y=>[]) (fun y=>[slF (rI .u32) (y.1) (y.2) (yf ((yu s (a:Int)).natAbs))]):=by
  have h:= @zpf s p (yf a).length cap (yf a) rfl (yB a)
  rw [yF] at h
  exact h
theorem zDb {n0:Nat} (hn0:n0<18446744073709551616):Con ym 122 [.int .u64 ((n0:Nat):Int)] [] [] (Y:=(Option Addr)×Nat) (fun y=>True) (fun y=> .slice (y.1) ((yf n0).length) (y.2)) (fun y=>[]) (fun y=>[slF (rI .u32) (y.1) (y.2) (yf n0)]):=by
 refine zx Tryz.func122 rfl rfl rfl (fun c=> ?_)
 show RunC _ _ _ _ _ [(0,.int .u64 ((n0:Nat):Int))] [] []
 refine zj<|zc<|e_p (zh rfl)<|zk<|zf<|zj<|zc<|e_p (zh rfl)<|zk<|zf<|zj<|zu<|zkf 131 (rI .u32)<|zza (X:=Nat×(Option Addr)×Nat×(List Int)) (fun x:Nat×(Option Addr)×Nat×(List Int)=>x.1≤n0∧x.2.2.2++yf x.1=yf n0) (fun x=>[(3,.slice (x.2.1) (x.2.2.2.length) (x.2.2.1)),(0,.int .u64 ((x.1:Nat):Int)),(2,.slice none 0 0)]) (fun x=>[rowA 131 (rI .u32) (x.2.1) (x.2.2.1) (x.2.2.2)]) (fun x=>[]) (fun x:Nat×(Option Addr)×Nat×(List Int)=>x.1) (n0,none,0,[]) (show n0≤n0∧([])++yf n0=yf n0 from by exact ⟨Nat.le_refl _,rfl⟩) ((.e rfl (by first|rfl|(congr 1;omega)|simp_all) (.c rfl (.c rfl .n))):SubM _ _) (ho:=((.c (i:=0) rfl .n):PickO _ _ _)) (.n:SelR _ _ _) ?_
 rintro ⟨n,p,c,os⟩ hI
 replace hI:n≤n0∧os++yf n=yf n0:=hI
 try dsimp only
 obtain ⟨hnn,hos⟩:=hI
 have hlen:os.length+(yf n).length≤3:=by have:=congrArg List.length hos;rw [List.length_append] at this;have:=Big.zPe hn0;omega
 refine zj<|zj<|zc<|e_mv rfl<|e_p (zZa rfl rfl)<|zk<|zf<|zT rfl (fun hc=> ?_) (fun hc=> ?_)
 ·
  refine zB<|zf<|zj<|zu<|zc<|e_mv rfl<|e_mv rfl<|e_p (zeb (z:=(((n%1000000000):Nat):Int)) rfl rfl om (remN om om))<|e_p (zH (z:=(((n%1000000000):Nat):Int)) rfl (by rw [yr];rfl) yv (wu32 om))<|zJa rfl rfl (zQ (enc:=fun z:Int=>[.int .u32 z]) (ok:=InK .u32) (h1:=fun _=>rfl) (h2:=fun _=>rfl) (k:=1) yg inf131 rfl dd dd dd (.c (x:=(((n%1000000000):Nat):Int)) rfl rfl (fun _ _=>by exact zE.2 om) .n)) (fun b1 _=> ?_)
  refine zqa 0 rfl .z<|zWa 1 rfl rfl rfl (zNa 0 rfl yg inf131 dd rfl rfl cbs rfl cbs om om) (fun _=>(.s .z)) ?_
  rintro ⟨p2,c3⟩ -
  dsimp only [aq,nq,cq]
  refine e_p (zh rfl)<|zk<|zK<|zf<|zc<|e_mv rfl<|e_p (zdb (z:=(((n / 1000000000):Nat):Int)) rfl rfl om (by rw [quoN (z:=(((n / 1000000000):Nat):Int)) om om];exact wu64 om))<|e_p (zh rfl)<|zk<|zwa ((n / 1000000000),p2,c3,os++[((n%1000000000:Nat):Int)]) (show (n / 1000000000)≤n0∧(os++[((n%1000000000:Nat):Int)])++yf (n / 1000000000)=yf n0 from by exact ⟨by omega,Big.split_step om hos⟩) (by show n / 1000000000<n;omega) ((.e rfl (by simp) (.c rfl (.c rfl .n))):SubM _ _) (ho:=((.e (i:=1) rfl (by first|rfl|(congr 1;omega)|simp_all) .n):PickO _ _ _)) (.n:SelR _ _ _)
 ·
  refine zla<|zn<|zn<|zC<|zf<|zj<|zc<|e_mv rfl<|e_p (zh rfl)<|zk<|zf<|zR ?_
  have hz:n=0:=by omega
  subst hz
  have hd:os=yf n0:=by simpa [Big.digs_zero] using hos
  refine zUb 0 rfl .z ?_
  exact zL Tryz.results122 (p,c) trivial (zD rfl) (by rw [hd]) (ho:=(.n:PickO _ _ _)) ((.e (j:=0) rfl (by rw [hd]) .n):SelR _ _ _)
theorem zBf {z:Int} (hz: -9223372036854775808≤z∧z≤9223372036854775807):Con ym 104 [yc yd z] [] [] (Y:=(Option Addr)×Nat) (fun y=>True) (fun y=> .agg #[.bool (decide (z<0)),.slice (y.1) ((yf ((z).natAbs)).length) (y.2)]) (fun y=>[]) (fun y=>[slF (rI .u32) (y.1) (y.2) (yf ((z).natAbs))]):=by
 refine zx Tryz.func104 rfl rfl rfl (fun c=> ?_)
 show RunC _ _ _ _ _ [(0,yc yd z)] [] []
 refine zj<|zc<|zJ rfl rfl (zp zr42 rfl) (fun b1=> ?_)
 refine zk<|zf<|zj<|zc<|e_mv rfl<|e_p (zH (z:=(z%18446744073709551616)) rfl (by rw [yn];rfl) yr (wu64m om))<|e_p (zh rfl)<|zk<|zf<|zj<|zj<|zc<|e_mv rfl<|e_p (zS rfl rfl)<|zk<|zf<|zT rfl (fun hs=> ?_) (fun hs=> ?_)
 ·
  refine zc<|e_mv rfl<|e_p (zhc (z:=((z.natAbs:Nat):Int)) rfl (wu64m om))<|e_p (zh rfl)<|zk<|zf<|zj<|zc<|e_mv rfl<|e_p (zS rfl rfl)<|e_mv rfl<|zG rfl rfl (.c rfl .n) ce122 (zDb (n0:=z.natAbs) (hn0:=om)) (.n) ?_
  rintro ⟨p22,c23⟩ -
  dsimp only [aq,nq,cq]
  refine zG rfl rfl (.c rfl (.c rfl .n)) ce120 (zHa (s:=decide (z<0)) (a:=z.natAbs) (p:=p22) (cap:=c23)) (.c (j:=0) rfl .n) ?_
  rintro ⟨p24,c25⟩ -
  dsimp only [aq,nq,cq]
  refine zl 0 rfl rfl rfl rfl rfl sz42 rfl (.t2 .nil) .z<|zk<|zf<|zR ?_
  have hsg:yu (decide (z<0)) (z.natAbs:Int)=z:=Big.sg_big z
  exact zL Tryz.results104 (p24,c25) trivial (zr 0 ty42 rfl rfl (.t2 .nil)) (by rw [hsg]) (ho:=(.n:PickO _ _ _)) ((.e (j:=0) rfl (by rw [hsg]) .n):SelR _ _ _)
 ·
  have e6:((z%18446744073709551616):Int)=((z.natAbs:Nat):Int):=by omega
  rw [e6]
  refine zB<|zf<|zj<|zc<|e_mv rfl<|e_p (zS rfl rfl)<|e_mv rfl<|zG rfl rfl (.c rfl .n) ce122 (zDb (n0:=z.natAbs) (hn0:=om)) (.n) ?_
  rintro ⟨p27,c28⟩ -
  dsimp only [aq,nq,cq]
  refine zG rfl rfl (.c rfl (.c rfl .n)) ce120 (zHa (s:=decide (z<0)) (a:=z.natAbs) (p:=p27) (cap:=c28)) (.c (j:=0) rfl .n) ?_
  rintro ⟨p29,c210⟩ -
  dsimp only [aq,nq,cq]
  refine zl 0 rfl rfl rfl rfl rfl sz42 rfl (.t2 .nil) .z<|zk<|zf<|zR ?_
  have hsg:yu (decide (z<0)) (z.natAbs:Int)=z:=Big.sg_big z
  exact zL Tryz.results104 (p29,c210) trivial (zr 0 ty42 rfl rfl (.t2 .nil)) (by rw [hsg]) (ho:=(.n:PickO _ _ _)) ((.e (j:=0) rfl (by rw [hsg]) .n):SelR _ _ _)
theorem zrd {z:Int} (hz: -9223372036854775808≤z∧z≤9223372036854775807):Con ym 104 [yc yd (z)] [] [] (Y:=(Wd)) (fun y=>True) (fun y=> .agg #[y.b,y.l]) (fun y=>[]) (fun y=>[zF y (z)]):=by
  exact zac (zBf hz)
theorem zRc {a:Nat} {b:Nat} {p1:Option Addr} {c1:Nat} {p2:Option Addr} {c2:Nat} (hb1:(yf a).length≤1099511627776) (hb2:(yf b).length≤1099511627776) (hab:b≤a):Con ym 137 [.slice p1 ((yf a).length) c1,.slice p2 ((yf b).length) c2] [] [slF (rI .u32) p1 c1 (yf a),slF (rI .u32) p2 c2 (yf b)] (Y:=(Option Addr)×Nat) (fun y=>True) (fun y=> .slice (y.1) ((yf (a - b)).length) (y.2)) (fun y=>[]) (fun y=>[slF (rI .u32) (y.1) (y.2) (yf (a - b))]):=by
 refine zx Tryz.func137 rfl rfl rfl (fun c=> ?_)
 show RunC _ _ _ _ _ [(0,.slice p1 ((yf a).length) c1),(1,.slice p2 ((yf b).length) c2)] [] [slF (rI .u32) p1 c1 (yf a),slF (rI .u32) p2 c2 (yf b)]
 refine zpa 0 rfl (fun hL0=> ?_)
 refine zpa 1 rfl (fun hL1=> ?_)
 refine zj<|zc<|e_p (zh rfl)<|zk<|zf<|zj<|zc<|e_mv rfl<|e_p (zea yg rfl)<|zJa rfl rfl (zFb (r:=rI .u32) (k:=(yf a).length) (x0:=0) (γ0:=()) yg inf131 rfl rfl rfl rfl om om rfl (fun _ _=>by exact zE.2 dd) dd) (fun b1 _=> ?_)
 refine e_p (zh rfl)<|zk<|zf<|zj<|zc<|e_p (zh rfl)<|zk<|zf<|zj<|zj<|zc<|e_mv rfl<|e_p (zea yg rfl)<|e_mv rfl<|zk<|zf<|zu<|zza (X:=Nat×(List Int)×Int) (fun x:Nat×(List Int)×Int=>x.1≤(yf a).length∧x.2.1.length=x.1∧0≤x.2.2∧x.2.2≤1∧yx x.2.1∧yj x.2.1+yj ((yf b).take x.1)=yj ((yf a).take x.1)+yE x.1*x.2.2) (fun x=>[(6,.int .u32 (x.2.2)),(14,yc yd ((x.1:Nat):Int)),(13,yc yd (((yf a).length:Nat):Int)),(5,.slice (some ⟨b1,0,none⟩) ((yf a).length) ((yf a).length)),(4,.slice none 0 0),(0,.slice p1 ((yf a).length) c1),(1,.slice p2 ((yf b).length) c2)]) (fun x=>[rowA 131 (rI .u32) (some ⟨b1,0,none⟩) ((yf a).length) (x.2.1++List.replicate ((yf a).length - x.1) 0)]) (fun x=>[slF (rI .u32) p1 c1 (yf a),slF (rI .u32) p2 c2 (yf b)]) (fun x:Nat×(List Int)×Int=>(yf a).length - x.1) (0,[],0) (show 0≤(yf a).length∧([]).length=0∧0≤0∧0≤1∧yx ([])∧yj ([])+yj ((yf b).take 0)=yj ((yf a).take 0)+yE 0*0 from by exact ⟨by omega,rfl,by decide,by decide,Big.okL_nil,by simp [yj]⟩) ((.c rfl (.e rfl (by first|rfl|(congr 1;omega)|simp_all) (.of rfl))):SubM _ _) (ho:=((.e (i:=0) rfl (by simp) .n):PickO _ _ _)) ((.of [0,1] rfl):SelR _ _ _) ?_
 rintro ⟨i,os,bo⟩ hI
 replace hI:i≤(yf a).length∧os.length=i∧0≤bo∧bo≤1∧yx os∧yj os+yj ((yf b).take i)=yj ((yf a).take i)+yE i*bo:=hI
 try dsimp only
 obtain ⟨hi,hol,hc0,hc1,hok,hv⟩:=hI
 have hg1:=yz (yB a) i
 have hg2:=yz (yB b) i
 refine zj<|zc<|e_p (zS rfl rfl)<|zk<|zf<|zj<|zT rfl (fun h2=> ?_) (fun h2=> ?_)
 ·
  refine zB<|zf<|zj<|zu<|zj<|zc<|e_mv rfl<|e_p (zh rfl)<|zk<|zf<|zj<|zc<|e_mv rfl<|e_mv rfl<|zV rfl rfl (.c rfl (.c rfl .n)) ce143 (zke (p:=p2) (n:=(yf b).length) (cap:=c2) (l:=yf b) (i:=i) (hn:=cbb) (hi:=cbb)) (.c (j:=1) rfl .n)<|e_mv rfl<|e_p (zI (z:=((yf b).getD i 0+bo)) rfl rfl (wu32 om))<|e_p (zh rfl)<|zk<|zf<|zj<|zc<|e_p (zh rfl)<|zk<|zf<|zj<|zc<|e_mv rfl<|e_mv rfl<|zP (x0:=((yf a).getD i 0)) 0 i rfl yg sz131 rfl rfl rfl (by first|rfl|assumption|(simp;omega)) rfl rfl (gD (d:=0) om) (fun b3 o4 hok5=> ?_)
  replace hok5:=zE.1 hok5
  refine e_ru (zA (j:=0) 0 ty131 rfl rfl rfl rfl)<|e_mv rfl<|e_p (zS rfl rfl)<|zk<|zf<|zT rfl (fun hc=> ?_) (fun hc=> ?_)
  ·
   refine zc<|e_mv rfl<|e_mv rfl<|e_mv rfl<|e_mv rfl<|zP (x0:=((yf a).getD i 0)) 1 i rfl yg sz131 rfl rfl rfl (by first|rfl|assumption|(simp;omega)) rfl rfl (gD (d:=0) om) (fun b6 o7 hok8=> ?_)
   replace hok8:=zE.1 hok8
   refine e_ru (zA (j:=0) 0 ty131 rfl rfl rfl rfl)<|e_p (zI (z:=(((yf a).getD i 0)+1000000000)) rfl rfl (wu32 om))<|e_mv rfl<|e_p (zma (z:=((((yf a).getD i 0)+1000000000) - ((yf b).getD i 0+bo))) rfl rfl (wu32 om))<|e_p (zja (j:=i) yg sz131 rfl rfl rfl om)<|zWa 0 rfl rfl rfl (zha (j:=i) (x0:=((((yf a).getD i 0)+1000000000) - ((yf b).getD i 0+bo))) (γ0:=()) rfl rfl (by first|omega|(rw [List.length_map];omega)|(simp only [List.length_set];omega)|(simp;done)|(simp;omega)) rfl rfl sz131 (fun _ _=>by exact zE.2 om)) (fun _=> .z) (fun _ _=> ?_)
   refine e_p (zh rfl)<|zk<|zK<|zf<|zc<|e_p (zI (z:=(((i+1):Nat):Int)) rfl rfl (w64 om))<|e_mv rfl<|zk<|zwa ((i+1),os++[(yf a).getD i 0+1000000000 - ((yf b).getD i 0+bo)],1) (show (i+1)≤(yf a).length∧(os++[(yf a).getD i 0+1000000000 - ((yf b).getD i 0+bo)]).length=(i+1)∧0≤1∧1≤1∧yx (os++[(yf a).getD i 0+1000000000 - ((yf b).getD i 0+bo)])∧yj (os++[(yf a).getD i 0+1000000000 - ((yf b).getD i 0+bo)])+yj ((yf b).take (i+1))=yj ((yf a).take (i+1))+yE (i+1)*1 from by exact ⟨by omega,by simp [hol],by decide,by decide,yI hok om om,Big.minus_step hol hv om⟩) (by show (yf a).length - (i+1)<(yf a).length - i;omega) ((.of rfl):SubM _ _) (ho:=((.e (i:=0) rfl (by rw [Big.set_pad hol om]) .n):PickO _ _ _)) ((.of [2,3] rfl):SelR _ _ _)
  ·
   refine zc<|e_mv rfl<|e_mv rfl<|e_mv rfl<|e_mv rfl<|zP (x0:=((yf a).getD i 0)) 1 i rfl yg sz131 rfl rfl rfl (by first|rfl|assumption|(simp;omega)) rfl rfl (gD (d:=0) om) (fun b9 o10 hok11=> ?_)
   replace hok11:=zE.1 hok11
   refine e_ru (zA (j:=0) 0 ty131 rfl rfl rfl rfl)<|e_mv rfl<|e_p (zma (z:=(((yf a).getD i 0) - ((yf b).getD i 0+bo))) rfl rfl (wu32 om))<|e_p (zja (j:=i) yg sz131 rfl rfl rfl om)<|zWa 0 rfl rfl rfl (zha (j:=i) (x0:=(((yf a).getD i 0) - ((yf b).getD i 0+bo))) (γ0:=()) rfl rfl (by first|omega|(rw [List.length_map];omega)|(simp only [List.length_set];omega)|(simp;done)|(simp;omega)) rfl rfl sz131 (fun _ _=>by exact zE.2 om)) (fun _=> .z) (fun _ _=> ?_)
   refine zk<|zK<|zf<|zc<|e_p (zI (z:=(((i+1):Nat):Int)) rfl rfl (w64 om))<|e_mv rfl<|zk<|zwa ((i+1),os++[(yf a).getD i 0 - ((yf b).getD i 0+bo)],0) (show (i+1)≤(yf a).length∧(os++[(yf a).getD i 0 - ((yf b).getD i 0+bo)]).length=(i+1)∧0≤0∧0≤1∧yx (os++[(yf a).getD i 0 - ((yf b).getD i 0+bo)])∧yj (os++[(yf a).getD i 0 - ((yf b).getD i 0+bo)])+yj ((yf b).take (i+1))=yj ((yf a).take (i+1))+yE (i+1)*0 from by exact ⟨by omega,by simp [hol],by decide,by decide,yI hok om om,Big.minus_step hol hv om⟩) (by show (yf a).length - (i+1)<(yf a).length - i;omega) ((.of rfl):SubM _ _) (ho:=((.e (i:=0) rfl (by rw [Big.set_pad hol om]) .n):PickO _ _ _)) ((.of [2,3] rfl):SelR _ _ _)
 ·
  have e12:os++List.replicate ((yf a).length - i) 0=os:=by rw [show (yf a).length - i=0 by omega];simp
  rw [e12]
  have htr:yt os=yf (a - b):=Big.minus_fin hab hok hc0 hol om hv
  refine zla<|zn<|zn<|zC<|zf<|zj<|zc<|e_mv rfl<|zqa 0 rfl .z<|zG rfl rfl (.c rfl .n) ce135 (zHb (p:=some ⟨b1,0,none⟩) (n:=(yf a).length) (cap:=(yf a).length) (l:=os) (hn:=cbb)) (.c (j:=0) rfl .n) ?_
  rintro ⟨⟩ -
  dsimp only [aq,nq,cq]
  refine e_p (zh rfl)<|zk<|zf<|zR ?_
  exact zL Tryz.results137 ((some ⟨b1,0,none⟩),((yf a).length)) trivial (zD rfl) (by rw [htr]) (ho:=(.n:PickO _ _ _)) ((.e (j:=0) rfl (by rw [htr]) .n):SelR _ _ _)
theorem zIf {s:Bool} {t:Bool} {a:Nat} {b:Nat} {p1:Option Addr} {c1:Nat} {p2:Option Addr} {c2:Nat} (hb1:(yf a).length≤1099511627776) (hb2:(yf b).length≤1099511627776):Con ym 125 [.bool s,.slice p1 ((yf a).length) c1,.bool t,.slice p2 ((yf b).length) c2] [] [slF (rI .u32) p1 c1 (yf a),slF (rI .u32) p2 c2 (yf b)] (Y:=(Option Addr)×Nat) (fun y=>True) (fun y=> .agg #[.bool (decide ((yu s (a:Int)+yu t (b:Int))<0)),.slice (y.1) ((yf ((yu s (a:Int)+yu t (b:Int)).natAbs)).length) (y.2)]) (fun y=>[]) (fun y=>[slF (rI .u32) (y.1) (y.2) (yf ((yu s (a:Int)+yu t (b:Int)).natAbs))]):=by
 refine zx Tryz.func125 rfl rfl rfl (fun c=> ?_)
 show RunC _ _ _ _ _ [(0,.bool s),(1,.slice p1 ((yf a).length) c1),(2,.bool t),(3,.slice p2 ((yf b).length) c2)] [] [slF (rI .u32) p1 c1 (yf a),slF (rI .u32) p2 c2 (yf b)]
 refine zpa 0 rfl (fun hL0=> ?_)
 refine zpa 1 rfl (fun hL1=> ?_)
 refine zj<|zc<|zJ rfl rfl (zp zr42 rfl) (fun b1=> ?_)
 refine zk<|zf<|zj<|zu<|zj<|zc<|e_mv rfl<|e_mv rfl<|e_p (zJc Tryz.underlying4 rfl rfl)<|e_p (zh rfl)<|zk<|zf<|zT rfl (fun hst=> ?_) (fun hst=> ?_)
 ·
  refine zj<|zc<|e_mv rfl<|e_mv rfl<|e_mv rfl<|zG rfl rfl (.c rfl (.c rfl .n)) ce136 (zJd (a:=a) (b:=b) (p1:=p1) (c1:=c1) (p2:=p2) (c2:=c2) (hb1:=ass) (hb2:=ass)) (.c (j:=0) rfl (.c (j:=1) rfl .n)) ?_
  rintro ⟨p32,c33⟩ -
  dsimp only [aq,nq,cq]
  refine zG rfl rfl (.c rfl (.c rfl .n)) ce120 (zHa (s:=s) (a:=a+b) (p:=p32) (cap:=c33)) (.c (j:=0) rfl .n) ?_
  rintro ⟨p24,c25⟩ -
  dsimp only [aq,nq,cq]
  refine zl 0 rfl rfl rfl rfl rfl sz42 rfl (.t2 .nil) .z<|zk<|zf<|zR<|zca<|zq ?_
  have hz:yu s ((a+b:Nat):Int)=yu s (a:Int)+yu t (b:Int):=by rw [← hst];unfold yu;split <;> omega
  exact zL Tryz.results125 (p24,c25) trivial (zr 0 ty42 rfl rfl (.t2 .nil)) (by rw [hz]) (ho:=(.n:PickO _ _ _)) ((.e (j:=0) rfl (by rw [hz]) .n):SelR _ _ _)
 ·
  refine zj<|zc<|e_mv rfl<|e_mv rfl<|zV rfl rfl (.c rfl (.c rfl .n)) ce118 (zdc (a:=a) (b:=b) (p1:=p1) (c1:=c1) (p2:=p2) (c2:=c2)) (.c (j:=0) rfl (.c (j:=1) rfl .n))<|e_p (zpb rfl rfl)<|e_p (zh rfl)<|zk<|zf<|zT rfl (fun hcmp=> ?_) (fun hcmp=> ?_)
  ·
   have hab:b≤a:=by have:=Big.cmp_ge.1 hcmp;omega
   refine zj<|zc<|e_mv rfl<|e_mv rfl<|e_mv rfl<|zG rfl rfl (.c rfl (.c rfl .n)) ce137 (zRc (a:=a) (b:=b) (p1:=p1) (c1:=c1) (p2:=p2) (c2:=c2) (hb1:=ass) (hb2:=ass) (hab:=cbb)) (.c (j:=0) rfl (.c (j:=1) rfl .n)) ?_
   rintro ⟨p36,c37⟩ -
   dsimp only [aq,nq,cq]
   refine zG rfl rfl (.c rfl (.c rfl .n)) ce120 (zHa (s:=s) (a:=a - b) (p:=p36) (cap:=c37)) (.c (j:=0) rfl .n) ?_
   rintro ⟨p28,c29⟩ -
   dsimp only [aq,nq,cq]
   refine zl 0 rfl rfl rfl rfl rfl sz42 rfl (.t2 .nil) .z<|zk<|zf<|zR<|zca<|zq ?_
   have hz:yu s ((a - b:Nat):Int)=yu s (a:Int)+yu t (b:Int):=by revert hst;unfold yu;cases s <;> cases t <;> simp <;> omega
   exact zL Tryz.results125 (p28,c29) trivial (zr 0 ty42 rfl rfl (.t2 .nil)) (by rw [hz]) (ho:=(.n:PickO _ _ _)) ((.e (j:=0) rfl (by rw [hz]) .n):SelR _ _ _)
  ·
   have hab:a≤b:=by have:¬(b:Int)≤a:=fun h=>hcmp (Big.cmp_ge.2 h);omega
   refine zB<|zK<|zf<|zj<|zc<|e_mv rfl<|e_mv rfl<|e_mv rfl<|zG rfl rfl (.c rfl (.c rfl .n)) ce137 (zRc (a:=b) (b:=a) (p1:=p2) (c1:=c2) (p2:=p1) (c2:=c1) (hb1:=ass) (hb2:=ass) (hab:=cbb)) (.c (j:=1) rfl (.c (j:=0) rfl .n)) ?_
   rintro ⟨p310,c311⟩ -
   dsimp only [aq,nq,cq]
   refine zG rfl rfl (.c rfl (.c rfl .n)) ce120 (zHa (s:=t) (a:=b - a) (p:=p310) (cap:=c311)) (.c (j:=0) rfl .n) ?_
   rintro ⟨p212,c213⟩ -
   dsimp only [aq,nq,cq]
   refine zl 0 rfl rfl rfl rfl rfl sz42 rfl (.t2 .nil) .z<|zk<|zf<|zR ?_
   have hz:yu t ((b - a:Nat):Int)=yu s (a:Int)+yu t (b:Int):=by revert hst;unfold yu;cases s <;> cases t <;> simp <;> omega
   exact zL Tryz.results125 (p212,c213) trivial (zr 0 ty42 rfl rfl (.t2 .nil)) (by rw [hz]) (ho:=(.n:PickO _ _ _)) ((.e (j:=0) rfl (by rw [hz]) .n):SelR _ _ _)
theorem zKd {a:Nat} {b:Nat} {p1:Option Addr} {c1:Nat} {p2:Option Addr} {c2:Nat} (hb1:(yf a).length≤1099511627776) (hb2:(yf b).length≤1099511627776):Con ym 121 [.slice p1 ((yf a).length) c1,.slice p2 ((yf b).length) c2] [] [slF (rI .u32) p1 c1 (yf a),slF (rI .u32) p2 c2 (yf b)] (Y:=(Option Addr)×Nat) (fun y=>True) (fun y=> .slice (y.1) ((yf (a*b)).length) (y.2)) (fun y=>[]) (fun y=>[slF (rI .u32) (y.1) (y.2) (yf (a*b))]):=by
 refine zx Tryz.func121 rfl rfl rfl (fun c=> ?_)
 show RunC _ _ _ _ _ [(0,.slice p1 ((yf a).length) c1),(1,.slice p2 ((yf b).length) c2)] [] [slF (rI .u32) p1 c1 (yf a),slF (rI .u32) p2 c2 (yf b)]
 refine zpa 0 rfl (fun hL0=> ?_)
 refine zpa 1 rfl (fun hL1=> ?_)
 have hoa:=yB a
 have hob:=yB b
 refine zj<|zc<|e_p (zh rfl)<|zk<|zf<|zj<|zc<|e_mv rfl<|e_p (zea yg rfl)<|e_mv rfl<|e_p (zea yg rfl)<|e_p (zI (z:=(((((yf a).length)+((yf b).length)):Nat):Int)) rfl rfl (w64 om))<|zJa rfl rfl (zFb (r:=rI .u32) (k:=(((yf a).length)+((yf b).length))) (x0:=0) (γ0:=()) yg inf131 rfl rfl rfl rfl om om rfl (fun _ _=>by exact zE.2 dd) dd) (fun b1 _=> ?_)
 refine e_p (zh rfl)<|zk<|zf<|zj<|zj<|zc<|e_mv rfl<|e_p (zea yg rfl)<|e_mv rfl<|zk<|zf<|zu<|zza (X:=Nat×(List Int)) (fun x:Nat×(List Int)=>x.1≤(yf a).length∧x.2.length=(yf a).length+(yf b).length∧yx x.2∧(∀k,x.1+(yf b).length≤k→x.2.getD k 0=0)∧yj x.2=yj ((yf a).take x.1)*yj (yf b)) (fun x=>[(20,yc yd ((x.1:Nat):Int)),(19,yc yd (((yf a).length:Nat):Int)),(18,.slice p1 ((yf a).length) c1),(5,.slice (some ⟨b1,0,none⟩) (((yf a).length)+((yf b).length)) (((yf a).length)+((yf b).length))),(4,.slice none 0 0),(1,.slice p2 ((yf b).length) c2)]) (fun x=>[rowA 131 (rI .u32) (some ⟨b1,0,none⟩) (((yf a).length)+((yf b).length)) (x.2)]) (fun x=>[slF (rI .u32) p1 c1 (yf a),slF (rI .u32) p2 c2 (yf b)]) (fun x:Nat×(List Int)=>(yf a).length - x.1) (0,List.replicate ((yf a).length+(yf b).length) 0) (show 0≤(yf a).length∧(List.replicate ((yf a).length+(yf b).length) 0).length=(yf a).length+(yf b).length∧yx (List.replicate ((yf a).length+(yf b).length) 0)∧(∀k,0+(yf b).length≤k→(List.replicate ((yf a).length+(yf b).length) 0).getD k 0=0)∧yj (List.replicate ((yf a).length+(yf b).length) 0)=yj ((yf a).take 0)*yj (yf b) from by exact ⟨by omega,by simp,Big.okL_zeros _,fun k _=>Big.getD_zeros _ k,by simp [Big.valL_zeros,yj]⟩) ((.e rfl (by first|rfl|(congr 1;omega)|simp_all) (.of rfl)):SubM _ _) (ho:=((.e (i:=0) rfl (by first|rfl|(congr 1;omega)|simp_all) .n):PickO _ _ _)) ((.of [0,1] rfl):SelR _ _ _) ?_
 rintro ⟨i,os⟩ hI
 replace hI:i≤(yf a).length∧os.length=(yf a).length+(yf b).length∧yx os∧(∀k,i+(yf b).length≤k→os.getD k 0=0)∧yj os=yj ((yf a).take i)*yj (yf b):=hI
 try dsimp only
 obtain ⟨hi,hol,hok,hz,hv⟩:=hI
 have hg1:=yz hoa i
 refine zj<|zc<|e_p (zS rfl rfl)<|zk<|zf<|zj<|zT rfl (fun h2=> ?_) (fun h2=> ?_)
 ·
  refine zB<|zf<|zj<|zu<|zj<|zc<|e_mv rfl<|zP (x0:=((yf a).getD i 0)) 0 i rfl yg sz131 rfl rfl rfl (by first|rfl|assumption|(simp;omega)|omega) rfl rfl (gD (d:=0) om) (fun b3 o4 hok5=> ?_)
  replace hok5:=zE.1 hok5
  refine e_ru (zA (j:=0) 0 ty131 rfl rfl rfl rfl)<|e_p (zh rfl)<|e_p (zh rfl)<|zk<|zf<|zj<|zc<|e_p (zh rfl)<|zk<|zf<|zj<|zj<|zc<|e_mv rfl<|e_p (zea yg rfl)<|e_mv rfl<|zk<|zf<|zu<|zza (X:=Nat×(List Int)×Int) (fun x:Nat×(List Int)×Int=>x.1≤(yf b).length∧x.2.1.length=(yf a).length+(yf b).length∧yx x.2.1∧0≤x.2.2∧x.2.2<1000000000∧(∀k,i+(yf b).length≤k→x.2.1.getD k 0=0)∧yj x.2.1+yE (i+x.1)*x.2.2=yj ((yf a).take i)*yj (yf b)+yE i*(yf a).getD i 0*yj ((yf b).take x.1)) (fun x=>[(8,.int .u64 (x.2.2)),(27,yc yd ((x.1:Nat):Int)),(26,yc yd (((yf b).length:Nat):Int)),(25,.slice p2 ((yf b).length) c2),(7,.int .u32 ((yf a).getD i 0)),(6,yc yd ((i:Nat):Int)),(20,yc yd ((i:Nat):Int)),(19,yc yd (((yf a).length:Nat):Int)),(18,.slice p1 ((yf a).length) c1),(5,.slice (some ⟨b1,0,none⟩) (((yf a).length)+((yf b).length)) (((yf a).length)+((yf b).length))),(4,.slice none 0 0),(1,.slice p2 ((yf b).length) c2)]) (fun x=>[rowA 131 (rI .u32) (some ⟨b1,0,none⟩) (((yf a).length)+((yf b).length)) (x.2.1)]) (fun x=>[atF b3 o4 [.int .u32 ((yf a).getD i 0)],slF (rI .u32) p1 c1 (yf a),slF (rI .u32) p2 c2 (yf b)]) (fun x:Nat×(List Int)×Int=>(yf b).length - x.1) (0,os,0) (show 0≤(yf b).length∧os.length=(yf a).length+(yf b).length∧yx os∧0≤0∧0<1000000000∧(∀k,i+(yf b).length≤k→os.getD k 0=0)∧yj os+yE (i+0)*0=yj ((yf a).take i)*yj (yf b)+yE i*(yf a).getD i 0*yj ((yf b).take 0) from by exact ⟨by omega,hol,hok,by decide,by decide,hz,by rw [hv];simp [yj]⟩) ((.c rfl (.e rfl (by first|rfl|(congr 1;omega)|simp_all) (.of rfl))):SubM _ _) (ho:=((.c (i:=0) rfl .n):PickO _ _ _)) ((.of [0,1,2] rfl):SelR _ _ _) ?_
  rintro ⟨j,os2,cy⟩ hJ
  replace hJ:j≤(yf b).length∧os2.length=(yf a).length+(yf b).length∧yx os2∧0≤cy∧cy<1000000000∧(∀k,i+(yf b).length≤k→os2.getD k 0=0)∧yj os2+yE (i+j)*cy=yj ((yf a).take i)*yj (yf b)+yE i*(yf a).getD i 0*yj ((yf b).take j):=hJ
  try dsimp only
  obtain ⟨hj,hol2,hok2,hcy0,hcy1,hz2,hv2⟩:=hJ
  have hg2:=yz hob j
  have hg3:=yz hok2 (i+j)
  have hpq:=Big.mul_lim hg1 hg2
  refine zj<|zc<|e_p (zS rfl rfl)<|zk<|zf<|zj<|zT rfl (fun h6=> ?_) (fun h6=> ?_)
  ·
   refine zB<|zf<|zj<|zu<|zj<|zc<|e_mv rfl<|zP (x0:=((yf b).getD j 0)) 2 j rfl yg sz131 rfl rfl rfl (by first|rfl|assumption|(simp;omega)|omega) rfl rfl (gD (d:=0) om) (fun b7 o8 hok9=> ?_)
   replace hok9:=zE.1 hok9
   refine e_ru (zA (j:=0) 0 ty131 rfl rfl rfl rfl)<|e_p (zh rfl)<|e_p (zh rfl)<|zk<|zf<|zj<|zc<|e_mv rfl<|e_mv rfl<|e_mv rfl<|e_p (zI (z:=(((i+j):Nat):Int)) rfl rfl (w64 om))<|e_p (zja (j:=(i+j)) yg sz131 rfl rfl rfl om)<|r_vl rfl rfl (zra 0 (i+j) rfl ty131 rfl rfl (gD (d:=0) om) rfl) (fun _ hok10=> ?_)
   replace hok10:=zE.1 hok10
   refine e_p (zH (z:=(os2.getD (i+j) 0)) rfl (by rw [yv];rfl) yr (wu64 om))<|e_mv rfl<|e_p (zH (z:=((yf a).getD i 0)) rfl (by rw [yv];rfl) yr (wu64 om))<|e_mv rfl<|e_p (zH (z:=((yf b).getD j 0)) rfl (by rw [yv];rfl) yr (wu64 om))<|e_p (zGa (z:=(((yf a).getD i 0)*((yf b).getD j 0))) rfl rfl (wu64 om))<|e_p (zI (z:=((os2.getD (i+j) 0)+(((yf a).getD i 0)*((yf b).getD j 0)))) rfl rfl (wu64 om))<|e_mv rfl<|e_p (zI (z:=(((os2.getD (i+j) 0)+(((yf a).getD i 0)*((yf b).getD j 0)))+cy)) rfl rfl (wu64 om))<|e_p (zh rfl)<|zk<|zf<|zc<|e_mv rfl<|e_mv rfl<|e_mv rfl<|e_p (zI (z:=(((i+j):Nat):Int)) rfl rfl (w64 om))<|e_mv rfl<|e_p (zeb (z:=((((os2.getD (i+j) 0)+(((yf a).getD i 0)*((yf b).getD j 0)))+cy)%1000000000)) rfl rfl om (remN om om))<|e_p (zH (z:=((((os2.getD (i+j) 0)+(((yf a).getD i 0)*((yf b).getD j 0)))+cy)%1000000000)) rfl (by rw [yr];rfl) yv (wu32 om))<|e_mv rfl<|e_p (zdb (z:=((((os2.getD (i+j) 0)+(((yf a).getD i 0)*((yf b).getD j 0)))+cy) / 1000000000)) rfl rfl om (by rw [quoN (z:=((((os2.getD (i+j) 0)+(((yf a).getD i 0)*((yf b).getD j 0)))+cy) / 1000000000)) om om];exact wu64 om))<|e_p (zja (j:=(i+j)) yg sz131 rfl rfl rfl om)<|zWa 0 rfl rfl rfl (zha (j:=(i+j)) (x0:=((((os2.getD (i+j) 0)+(((yf a).getD i 0)*((yf b).getD j 0)))+cy)%1000000000)) (γ0:=()) rfl rfl (by first|omega|(rw [List.length_map];omega)|(simp only [List.length_set];omega)|(simp;done)|(simp;omega)) rfl rfl sz131 (fun _ _=>by exact zE.2 om)) (fun _=> .z) (fun _ _=> ?_)
   refine e_p (zh rfl)<|zk<|zK<|zf<|zc<|e_p (zI (z:=(((j+1):Nat):Int)) rfl rfl (w64 om))<|e_mv rfl<|zk<|zwa ((j+1),os2.set (i+j) ((os2.getD (i+j) 0+(yf a).getD i 0*(yf b).getD j 0+cy)%1000000000),(os2.getD (i+j) 0+(yf a).getD i 0*(yf b).getD j 0+cy) / 1000000000) (show (j+1)≤(yf b).length∧(os2.set (i+j) ((os2.getD (i+j) 0+(yf a).getD i 0*(yf b).getD j 0+cy)%1000000000)).length=(yf a).length+(yf b).length∧yx (os2.set (i+j) ((os2.getD (i+j) 0+(yf a).getD i 0*(yf b).getD j 0+cy)%1000000000))∧0≤((os2.getD (i+j) 0+(yf a).getD i 0*(yf b).getD j 0+cy) / 1000000000)∧((os2.getD (i+j) 0+(yf a).getD i 0*(yf b).getD j 0+cy) / 1000000000)<1000000000∧(∀k,i+(yf b).length≤k→(os2.set (i+j) ((os2.getD (i+j) 0+(yf a).getD i 0*(yf b).getD j 0+cy)%1000000000)).getD k 0=0)∧yj (os2.set (i+j) ((os2.getD (i+j) 0+(yf a).getD i 0*(yf b).getD j 0+cy)%1000000000))+yE (i+(j+1))*((os2.getD (i+j) 0+(yf a).getD i 0*(yf b).getD j 0+cy) / 1000000000)=yj ((yf a).take i)*yj (yf b)+yE i*(yf a).getD i 0*yj ((yf b).take (j+1)) from by exact ⟨by omega,by simpa using hol2,Big.okL_set hok2 om om,by omega,by omega,fun k hk=>by rw [Big.getD_set_ne om];exact hz2 k om,Big.mul_step hv2 om om⟩) (by show (yf b).length - (j+1)<(yf b).length - j;omega) ((.e rfl (by first|rfl|(congr 1;omega)|simp_all) (.of rfl)):SubM _ _) (ho:=((.e (i:=0) rfl (by first|rfl|(congr 1;omega)|simp_all) .n):PickO _ _ _)) ((.of [1,2,3] rfl):SelR _ _ _)
  ·
   have hjb:j=(yf b).length:=by omega
   subst hjb
   have hv3:=hv2
   refine zla<|zn<|zn<|zC<|zf<|zc<|e_mv rfl<|e_mv rfl<|e_mv rfl<|e_p (zea yg rfl)<|e_p (zI (z:=(((i+((yf b).length)):Nat):Int)) rfl rfl (w64 om))<|e_mv rfl<|e_p (zH (z:=cy) rfl (by rw [yr];rfl) yv (wu32 om))<|e_p (zja (j:=(i+((yf b).length))) yg sz131 rfl rfl rfl om)<|zWa 0 rfl rfl rfl (zha (j:=(i+((yf b).length))) (x0:=cy) (γ0:=()) rfl rfl (by first|omega|(rw [List.length_map];omega)|(simp only [List.length_set];omega)|(simp;done)|(simp;omega)) rfl rfl sz131 (fun _ _=>by exact zE.2 om)) (fun _=> .z) (fun _ _=> ?_)
   refine zk<|zK<|zf<|zc<|e_p (zI (z:=(((i+1):Nat):Int)) rfl rfl (w64 om))<|e_mv rfl<|zk<|zwa ((i+1),os2.set (i+(yf b).length) cy) (show (i+1)≤(yf a).length∧(os2.set (i+(yf b).length) cy).length=(yf a).length+(yf b).length∧yx (os2.set (i+(yf b).length) cy)∧(∀k,(i+1)+(yf b).length≤k→(os2.set (i+(yf b).length) cy).getD k 0=0)∧yj (os2.set (i+(yf b).length) cy)=yj ((yf a).take (i+1))*yj (yf b) from by exact ⟨by omega,by simpa using hol2,Big.okL_set hok2 om om,fun k hk=>by rw [Big.getD_set_ne om];exact hz2 k om,Big.mul_round hv3 om (hz2 _ (Nat.le_refl _))⟩) (by show (yf a).length - (i+1)<(yf a).length - i;omega) ((.of rfl):SubM _ _) (ho:=((.e (i:=0) rfl (by first|rfl|(congr 1;omega)|simp_all) .n):PickO _ _ _)) ((.of [1,2] rfl):SelR _ _ _)
 ·
  have hia:i=(yf a).length:=by omega
  have hfin:yt os=yf (a*b):=Big.trimL_of hok (by rw [hv,hia,List.take_length,yF,yF,Int.natCast_mul])
  refine zla<|zn<|zn<|zC<|zf<|zj<|zc<|e_mv rfl<|zqa 0 rfl .z<|zG rfl rfl (.c rfl .n) ce135 (zHb (p:=some ⟨b1,0,none⟩) (n:=(((yf a).length)+((yf b).length))) (cap:=(((yf a).length)+((yf b).length))) (l:=os) (hn:=cbb)) (.c (j:=0) rfl .n) ?_
  rintro ⟨⟩ -
  dsimp only [aq,nq,cq]
  refine e_p (zh rfl)<|zk<|zf<|zR ?_
  exact zL Tryz.results121 ((some ⟨b1,0,none⟩),(((yf a).length)+((yf b).length))) trivial (zD rfl) (by rw [hfin]) (ho:=(.n:PickO _ _ _)) ((.e (j:=0) rfl (by rw [hfin]) .n):SelR _ _ _)
theorem zle {s:Bool} {p:Option Addr} {n:Nat} {cap:Nat} {l:List Int} (hn:l.length=n):Con ym 105 [.agg #[.bool s,.slice p n cap]] [] [slF (rI .u32) p cap l] (Y:=Unit) (fun y=>True) (fun y=> yc yd ((yp s l).sign)) (fun y=>[]) (fun y=>[]):=by
 refine zx Tryz.func105 rfl rfl rfl (fun c=> ?_)
 show RunC _ _ _ _ _ [(0,.agg #[.bool s,.slice p n cap])] [] [slF (rI .u32) p cap l]
 refine zpa 0 rfl (fun hL0=> ?_)
 refine zfb 0 rfl (fun hE0=> ?_)
 have hnn:Big.nn l:=fun g hg=>(zE.1 (hE0 g hg)).1
 refine zj<|zc<|zJ rfl rfl (zda rfl rfl) (fun b1=> ?_)
 refine e_p (zh rfl)<|zk<|zf<|zj<|zu<|zj<|zc<|e_ru (zd 0 ty42 rfl rfl (.t2 .nil))<|zG rfl rfl (.c rfl .n) ce119 (zXa (s:=s) (p:=p) (n:=n) (cap:=cap) (l:=l) (hn:=ass)) (.c (j:=0) rfl .n) ?_
 rintro ⟨p22,c23⟩ -
 dsimp only [aq,nq,cq]
 refine e_p (zea yg rfl)<|e_p (zMa rfl rfl)<|e_p (zh rfl)<|zk<|zf<|zT rfl (fun h0=> ?_) (fun h0=> ?_)
 ·
  refine zj<|zc<|e_p (zh rfl)<|zk<|zf<|zR<|zca<|zq ?_
  exact zL Tryz.results105 () trivial (zD rfl) (by rw [show yp s l=0 by have:=Big.len_digs_nil.1 (show (yf (yp s l).natAbs).length=0 by omega);omega];rfl) (ho:=(.n:PickO _ _ _)) (.n:SelR _ _ _)
 ·
  refine zj<|zc<|e_p (zg yo rfl sz4 rfl rfl)<|e_ru (ze 0 ty4 rfl rfl rfl)<|e_p (zh rfl)<|zk<|zf<|zhb rfl (fun hs=> ?_) (fun hs=> ?_)
  ·
   refine zj<|zc<|e_p (zh rfl)<|zk<|zf<|zR<|zca<|zq ?_
   exact zL Tryz.results105 () trivial (zD rfl) (by rw [Big.sign_neg hnn hs (by intro e;rw [e] at h0;exact h0 rfl)]) (ho:=(.n:PickO _ _ _)) (.n:SelR _ _ _)
  ·
   refine zB<|zK<|zf<|zj<|zc<|e_p (zh rfl)<|zk<|zf<|zR ?_
   exact zL Tryz.results105 () trivial (zD rfl) (by rw [Big.sign_pos hnn hs (by intro e;rw [e] at h0;exact h0 rfl)]) (ho:=(.n:PickO _ _ _)) (.n:SelR _ _ _)
theorem zSc {z:Int} {p:Option Addr} {cap:Nat}:Con ym 105 [.agg #[.bool (decide ((z)<0)),.slice (p) ((yf ((z).natAbs)).length) (cap)]] [] [slF (rI .u32) (p) (cap) (yf ((z).natAbs))] (Y:=Unit) (fun y=>True) (fun y=> yc yd ((z).sign)) (fun y=>[]) (fun y=>[]):=by
  have h:= @zle (decide ((z)<0)) p (yf (z).natAbs).length cap (yf (z).natAbs) rfl
  rw [yA] at h
  exact h
theorem zpc {w1:Wd} {x1:Int}:Con ym 105 [.agg #[w1.b,w1.l]] [] [zF w1 (x1)] (Y:=Unit) (fun y=>True) (fun y=> yc yd ((x1).sign)) (fun y=>[]) (fun y=>[]):=by
  exact zGd (fun p c=>zSc)
theorem zJf {s:Bool} {p1:Option Addr} {n1:Nat} {c1:Nat} {l1:List Int} {t:Bool} {p2:Option Addr} {n2:Nat} {c2:Nat} {l2:List Int} (hn1:l1.length=n1) (hn2:l2.length=n2) (hb1:yH (yp s l1)≤1099511627776) (hb2:yH (yp t l2)≤1099511627776):Con ym 108 [.agg #[.bool s,.slice p1 n1 c1],.agg #[.bool t,.slice p2 n2 c2]] [] [slF (rI .u32) p1 c1 l1,slF (rI .u32) p2 c2 l2] (Y:=(Option Addr)×Nat) (fun y=>True) (fun y=> .agg #[.bool (decide ((yp s l1+yp t l2)<0)),.slice (y.1) ((yf ((yp s l1+yp t l2).natAbs)).length) (y.2)]) (fun y=>[]) (fun y=>[slF (rI .u32) (y.1) (y.2) (yf ((yp s l1+yp t l2).natAbs))]):=by
 refine zx Tryz.func108 rfl rfl rfl (fun c=> ?_)
 show RunC _ _ _ _ _ [(0,.agg #[.bool s,.slice p1 n1 c1]),(1,.agg #[.bool t,.slice p2 n2 c2])] [] [slF (rI .u32) p1 c1 l1,slF (rI .u32) p2 c2 l2]
 refine zpa 0 rfl (fun hL0=> ?_)
 refine zfb 0 rfl (fun hE0=> ?_)
 refine zpa 1 rfl (fun hL1=> ?_)
 refine zfb 1 rfl (fun hE1=> ?_)
 have hnn1:Big.nn l1:=fun g hg=>(zE.1 (hE0 g hg)).1
 have hnn2:Big.nn l2:=fun g hg=>(zE.1 (hE1 g hg)).1
 refine zj<|zc<|zJ rfl rfl (zda rfl rfl) (fun b1=> ?_)
 refine zJ rfl rfl (zda rfl rfl) (fun b2=> ?_)
 refine zJ rfl rfl (zp zr42 rfl) (fun b3=> ?_)
 refine zk<|zf<|zj<|zO (OW:=[boxA b3 42 [wz.b,wz.l]]) (O:=[boxA b2 42 [.bool t,.slice p2 n2 c2],boxA b1 42 [.bool s,.slice p1 n1 c1]]) 9 mixed (.then .ret) kr<|e_pv 0 rfl rfl (zg yo rfl sz4 rfl rfl)<|e_uw 1 rfl rfl (ze 2 ty4 rfl rfl rfl)<|e_uw 2 rfl rfl (zd 2 ty42 rfl rfl (.t2 .nil))<|e_pv 4 rfl rfl (zg yo rfl sz4 rfl rfl)<|e_uw 5 rfl rfl (ze 1 ty4 rfl rfl rfl)<|e_uw 6 rfl rfl (zd 1 ty42 rfl rfl (.t2 .nil))<|e_one 3 (zm rfl rfl rfl rfl (.c rfl .n) ce119 (zXa (s:=s) (p:=p1) (n:=n1) (cap:=c1) (l:=l1) (hn:=ass)) (.c (j:=0) rfl .n) ?_)
 rintro ⟨p24,c25⟩ -
 dsimp only [aq,nq,cq]
 refine e_one 7 (zm rfl rfl rfl rfl (.c rfl .n) ce119 (zXa (s:=t) (p:=p2) (n:=n2) (cap:=c2) (l:=l2) (hn:=ass)) (.c (j:=2) rfl .n) ?_)
 rintro ⟨p26,c27⟩ -
 dsimp only [aq,nq,cq]
 refine e_one 8 (zm rfl rfl rfl rfl (.c rfl (.c rfl (.c rfl (.c rfl .n)))) ce125 (zIf (s:=s) (t:=t) (a:=(yp s l1).natAbs) (b:=(yp t l2).natAbs) (p1:=p24) (c1:=c25) (p2:=p26) (c2:=c27) (hb1:=cbb) (hb2:=cbb)) (.c (j:=1) rfl (.c (j:=0) rfl .n)) ?_)
 rintro ⟨p38,c39⟩ -
 dsimp only [aq,nq,cq]
 refine e_one 9 (zo kr rfl rfl rfl rfl rfl sz42 rfl (.t2 .nil) ?_)
 refine zM kr<|zf<|zR ?_
 have hz:yu s ((yp s l1).natAbs:Int)+yu t ((yp t l2).natAbs:Int)=yp s l1+yp t l2:=by rw [Big.sg_raw hnn1,Big.sg_raw hnn2]
 exact zL Tryz.results108 (p38,c39) trivial (zr 0 ty42 rfl rfl (.t2 .nil)) (by rw [hz]) (ho:=(.n:PickO _ _ _)) ((.e (j:=0) rfl (by rw [hz]) .n):SelR _ _ _)
theorem zqf {x1:Int} {x2:Int} {p1:Option Addr} {c1:Nat} {p2:Option Addr} {c2:Nat} (hb1:yH x1≤1099511627776) (hb2:yH x2≤1099511627776):Con ym 108 [.agg #[.bool (decide ((x1)<0)),.slice (p1) ((yf ((x1).natAbs)).length) (c1)],.agg #[.bool (decide ((x2)<0)),.slice (p2) ((yf ((x2).natAbs)).length) (c2)]] [] [slF (rI .u32) (p1) (c1) (yf ((x1).natAbs)),slF (rI .u32) (p2) (c2) (yf ((x2).natAbs))] (Y:=(Option Addr)×(Nat)) (fun y=>True) (fun y=> .agg #[.bool (decide ((x1+x2)<0)),.slice (y.1) ((yf ((x1+x2).natAbs)).length) (y.2)]) (fun y=>[]) (fun y=>[slF (rI .u32) (y.1) (y.2) (yf ((x1+x2).natAbs))]):=by
  have h:= @zJf (decide ((x1)<0)) p1 (yf (x1).natAbs).length c1 (yf (x1).natAbs) (decide ((x2)<0)) p2 (yf (x2).natAbs).length c2 (yf (x2).natAbs) rfl rfl (by rw [yA];exact hb1) (by rw [yA];exact hb2)
  rw [yA,yA] at h
  exact h
theorem zrf {w1:Wd} {w2:Wd} {x1:Int} {x2:Int} (hb1:yH x1≤1099511627776) (hb2:yH x2≤1099511627776):Con ym 108 [.agg #[w1.b,w1.l],.agg #[w2.b,w2.l]] [] [zF w1 (x1),zF w2 (x2)] (Y:=(Wd)) (fun y=>True) (fun y=> .agg #[y.b,y.l]) (fun y=>[]) (fun y=>[zF y (x1+x2)]):=by
  exact zac (zBc (fun p1 c1 p2 c2=>zqf hb1 hb2))
theorem zKf {s:Bool} {p1:Option Addr} {n1:Nat} {c1:Nat} {l1:List Int} {t:Bool} {p2:Option Addr} {n2:Nat} {c2:Nat} {l2:List Int} (hn1:l1.length=n1) (hn2:l2.length=n2) (hb1:yH (yp s l1)≤1099511627776) (hb2:yH (yp t l2)≤1099511627776):Con ym 103 [.agg #[.bool s,.slice p1 n1 c1],.agg #[.bool t,.slice p2 n2 c2]] [] [slF (rI .u32) p1 c1 l1,slF (rI .u32) p2 c2 l2] (Y:=(Option Addr)×Nat) (fun y=>True) (fun y=> .agg #[.bool (decide ((yp s l1*yp t l2)<0)),.slice (y.1) ((yf ((yp s l1*yp t l2).natAbs)).length) (y.2)]) (fun y=>[]) (fun y=>[slF (rI .u32) (y.1) (y.2) (yf ((yp s l1*yp t l2).natAbs))]):=by
 refine zx Tryz.func103 rfl rfl rfl (fun c=> ?_)
 show RunC _ _ _ _ _ [(0,.agg #[.bool s,.slice p1 n1 c1]),(1,.agg #[.bool t,.slice p2 n2 c2])] [] [slF (rI .u32) p1 c1 l1,slF (rI .u32) p2 c2 l2]
 refine zpa 0 rfl (fun hL0=> ?_)
 refine zfb 0 rfl (fun hE0=> ?_)
 refine zpa 1 rfl (fun hL1=> ?_)
 refine zfb 1 rfl (fun hE1=> ?_)
 have hnn1:Big.nn l1:=fun g hg=>(zE.1 (hE0 g hg)).1
 have hnn2:Big.nn l2:=fun g hg=>(zE.1 (hE1 g hg)).1
 refine zj<|zc<|zJ rfl rfl (zda rfl rfl) (fun b1=> ?_)
 refine zJ rfl rfl (zda rfl rfl) (fun b2=> ?_)
 refine zJ rfl rfl (zp zr42 rfl) (fun b3=> ?_)
 refine zk<|zf<|zj<|zO (OW:=[boxA b3 42 [wz.b,wz.l]]) (O:=[boxA b2 42 [.bool t,.slice p2 n2 c2],boxA b1 42 [.bool s,.slice p1 n1 c1]]) 11 mixed (.then .ret) kr<|e_pv 0 rfl rfl (zg yo rfl sz4 rfl rfl)<|e_uw 1 rfl rfl (ze 2 ty4 rfl rfl rfl)<|e_pv 2 rfl rfl (zg yo rfl sz4 rfl rfl)<|e_uw 3 rfl rfl (ze 1 ty4 rfl rfl rfl)<|e_pv 4 rfl rfl (zUa Tryz.underlying4 rfl rfl)<|e_uw 5 rfl rfl (zd 2 ty42 rfl rfl (.t2 .nil))<|e_uw 7 rfl rfl (zd 1 ty42 rfl rfl (.t2 .nil))<|e_one 6 (zm rfl rfl rfl rfl (.c rfl .n) ce119 (zXa (s:=s) (p:=p1) (n:=n1) (cap:=c1) (l:=l1) (hn:=ass)) (.c (j:=0) rfl .n) ?_)
 rintro ⟨p24,c25⟩ -
 dsimp only [aq,nq,cq]
 refine e_one 8 (zm rfl rfl rfl rfl (.c rfl .n) ce119 (zXa (s:=t) (p:=p2) (n:=n2) (cap:=c2) (l:=l2) (hn:=ass)) (.c (j:=2) rfl .n) ?_)
 rintro ⟨p26,c27⟩ -
 dsimp only [aq,nq,cq]
 refine e_one 9 (zm rfl rfl rfl rfl (.c rfl (.c rfl .n)) ce121 (zKd (a:=(yp s l1).natAbs) (b:=(yp t l2).natAbs) (p1:=p24) (c1:=c25) (p2:=p26) (c2:=c27) (hb1:=cbb) (hb2:=cbb)) (.c (j:=1) rfl (.c (j:=0) rfl .n)) ?_)
 rintro ⟨p38,c39⟩ -
 dsimp only [aq,nq,cq]
 refine e_one 10 (zm rfl rfl rfl rfl (.c rfl (.c rfl .n)) ce120 (zHa (s:=decide (s≠t)) (a:=((yp s l1).natAbs)*((yp t l2).natAbs)) (p:=p38) (cap:=c39)) (.c (j:=0) rfl .n) ?_)
 rintro ⟨p210,c211⟩ -
 dsimp only [aq,nq,cq]
 refine e_one 11 (zo kr rfl rfl rfl rfl rfl sz42 rfl (.t2 .nil) ?_)
 refine zM kr<|zf<|zR ?_
 have hz:yu (decide (s≠t)) (((yp s l1).natAbs*(yp t l2).natAbs:Nat):Int)=yp s l1*yp t l2:=by rw [Big.sg_mul,Big.sg_raw hnn1,Big.sg_raw hnn2]
 exact zL Tryz.results103 (p210,c211) trivial (zr 0 ty42 rfl rfl (.t2 .nil)) (by rw [hz]) (ho:=(.n:PickO _ _ _)) ((.e (j:=0) rfl (by rw [hz]) .n):SelR _ _ _)
theorem zsf {x1:Int} {x2:Int} {p1:Option Addr} {c1:Nat} {p2:Option Addr} {c2:Nat} (hb1:yH x1≤1099511627776) (hb2:yH x2≤1099511627776):Con ym 103 [.agg #[.bool (decide ((x1)<0)),.slice (p1) ((yf ((x1).natAbs)).length) (c1)],.agg #[.bool (decide ((x2)<0)),.slice (p2) ((yf ((x2).natAbs)).length) (c2)]] [] [slF (rI .u32) (p1) (c1) (yf ((x1).natAbs)),slF (rI .u32) (p2) (c2) (yf ((x2).natAbs))] (Y:=(Option Addr)×(Nat)) (fun y=>True) (fun y=> .agg #[.bool (decide ((x1*x2)<0)),.slice (y.1) ((yf ((x1*x2).natAbs)).length) (y.2)]) (fun y=>[]) (fun y=>[slF (rI .u32) (y.1) (y.2) (yf ((x1*x2).natAbs))]):=by
  have h:= @zKf (decide ((x1)<0)) p1 (yf (x1).natAbs).length c1 (yf (x1).natAbs) (decide ((x2)<0)) p2 (yf (x2).natAbs).length c2 (yf (x2).natAbs) rfl rfl (by rw [yA];exact hb1) (by rw [yA];exact hb2)
  rw [yA,yA] at h
  exact h
theorem zJb {w1:Wd} {w2:Wd} {x1:Int} {x2:Int} (hb1:yH x1≤1099511627776) (hb2:yH x2≤1099511627776):Con ym 103 [.agg #[w1.b,w1.l],.agg #[w2.b,w2.l]] [] [zF w1 (x1),zF w2 (x2)] (Y:=(Wd)) (fun y=>True) (fun y=> .agg #[y.b,y.l]) (fun y=>[]) (fun y=>[zF y (x1*x2)]):=by
  exact zac (zBc (fun p1 c1 p2 c2=>zsf hb1 hb2))
end Go.Proofs.YtjeahiahjgifgaaGreatDoor.Sp
