/- Lemmas on the walk and plain lemmas that the claim of this folder uses; each states its own conditions. Lines were printed by a program of ours. -/
import Derived.Test.YtpdbimfnhglhpaaGreatZ3E
set_option linter.unusedVariables false
set_option linter.unusedSimpArgs false
set_option linter.unusedSectionVars false
open Go.Proofs.Tryz renaming underlying22 → yd
namespace Go.Proofs.YtpdbimfnhglhpaaGreat.Sp
open Go
set_option linter.unusedVariables false
set_option maxRecDepth 100000
set_option maxHeartbeats 8000000
theorem zEd {f:Int} {b:Int} {p0:Int} {p1:Int} {d:Int} {s1:Int} {s2:Int} (hp0: -32768≤p0∧p0≤32767) (hp1: -32768≤p1∧p1≤32767) (hdr: -32768≤d∧d≤32767) (hs1: -128≤s1∧s1≤127) (hs2: -128≤s2∧s2≤127) (ho:¬(1≤f∧f≤0x100000∧1≤b∧b≤0x100000)):Con Tryz.prog 3 [.agg #[.int .i64 f,.int .i64 b],.agg #[.int .i16 p0,.int .i16 p1,.int .i16 d],.agg #[.int .i8 s1,.int .i8 s2]] [] [] (Y:=Unit) (fun y=>True) (fun y=> .bool true) (fun y=>[]) (fun y=>[]):=by
 refine zl Tryz.func3 rfl rfl rfl (fun c=> ?_)
 show RunC _ _ _ _ _ [(0,.agg #[.int .i64 f,.int .i64 b]),(1,.agg #[.int .i16 p0,.int .i16 p1,.int .i16 d]),(2,.agg #[.int .i8 s1,.int .i8 s2])] [] []
 refine ze<|za<|zD rfl rfl (zT rfl rfl) (fun b1=> ?_)
 refine zD rfl rfl (zT rfl rfl) (fun b2=> ?_)
 refine zD rfl rfl (zT rfl rfl) (fun b3=> ?_)
 refine e_p (zb rfl)<|zf<|zc<|ze<|ze<|za<|zJ rfl rfl (.n) ce6 (zwc) (.n)<|e_p (zcb rfl)<|zf<|zc<|zaa rfl rfl<|zx<|zc<|ze<|zW (OW:=[]) (O:=[boxA b3 26 [.int .i8 s1,.int .i8 s2],boxA b2 24 [.int .i16 p0,.int .i16 p1,.int .i16 d],boxA b1 22 [.int .i64 f,.int .i64 b]]) 8 mixed (.then .ret) kr<|e_pv 0 rfl rfl (zM (i:=0) yd sz3 rfl rfl dd rfl)<|e_u 1 rfl rfl (zg 2 ty3 rfl rfl rfl)<|e_pv 2 rfl rfl (zM (i:=1) yd sz3 rfl rfl dd rfl)<|e_u 3 rfl rfl (zg 2 ty3 rfl rfl rfl)<|e_pv 4 rfl rfl (zM (i:=2) Tryz.underlying24 sz23 rfl rfl dd rfl)<|e_u 5 rfl rfl (zg 1 ty23 rfl rfl rfl)<|e_pv 6 rfl rfl (zt (z:=d) rfl (by rw [Tryz.underlying23];rfl) Tryz.underlying3 (w64 om))<|e_one 7 (zmb rfl rfl rfl rfl (zo zr3 rfl) (fun b4 _=> ?_))
 refine e_one 8 (zr kr rfl rfl rfl rfl rfl sz3 rfl (.take .nil) ?_)
 refine e_pv 9 rfl rfl (zb rfl)<|e_pv 10 rfl rfl (zb rfl)<|zN kr<|zc<|ze<|za<|e_ru (zg 0 ty3 rfl rfl rfl)<|e_mv rfl<|e_mv rfl<|zJ rfl rfl (.c rfl (.c rfl (.c rfl .n))) ce7 (zAd (f:=f) (b:=b) (d:=d) (ho:=ass)) (.n)<|e_mv rfl<|e_p (zm rfl rfl)<|e_p (zm rfl rfl)<|zD rfl rfl (zo zr34 rfl) (fun b5=> ?_)
 refine zk 0 rfl rfl rfl rfl rfl sz34 rfl (.t8 .nil) .z<|e_p (zb rfl)<|zf<|zc<|ze<|ze<|za<|e_mv rfl<|e_p (zsa rfl rfl)<|zf<|zc<|zNb rfl rfl<|zib (X:=Unit) (fun x=>True) (fun x=>[(6,.bool (decide (((((f<1)∨(0x100000<f))∨(b<1))∨(0x100000<b))∨False))),(11,.int .i64 2),(10,.pointer (some ⟨b5,0,none⟩)),(9,.int .i64 d),(8,.int .i64 b),(7,.pointer (some ⟨b4,0,none⟩)),(5,.pointer (some ⟨b3,0,none⟩)),(4,.pointer (some ⟨b2,0,none⟩))]) (fun x=>[boxA b5 34 (cw [wz,wz,wz,wz]),boxA b4 3 [.int .i64 f],boxA b3 26 [.int .i8 s1,.int .i8 s2],boxA b2 24 [.int .i16 p0,.int .i16 p1,.int .i16 d],boxA b1 22 [.int .i64 f,.int .i64 b]]) (fun x=>[]) ?_ ?_
 ·
  refine za<|e_mv rfl<|e_p (zxa rfl rfl)<|e_mv rfl<|e_ru (zg 1 ty3 rfl rfl rfl)<|e_p (zV rfl rfl)<|zja rfl rfl (zna rfl) (fun h6=> ?_) (fun h6=> ?_)
  ·
   refine e_no<|e_no<|e_p (zC rfl rfl)<|e_mv rfl<|e_no<|e_no<|e_p (zC rfl rfl)<|e_mv rfl<|e_no<|e_no<|e_p (zC rfl rfl)<|e_p (zC rfl rfl)<|e_mv rfl<|e_no<|e_no<|e_no<|e_no<|e_no<|e_no<|e_p (zC rfl rfl)<|e_p (zb rfl)<|zf ?_
   exact zka () tt9 ((.e rfl (congrArg Value.bool cbu) (.of rfl)):SubM _ _) (ho:=((.of [0,0,0,0,0] rfl):PickO _ _ _)) sN
  ·
   refine e_ru (zg 1 ty3 rfl rfl rfl)<|e_p (zpa rfl rfl)<|e_p (zC rfl rfl)<|zja rfl rfl (zna rfl) (fun h7=> ?_) (fun h7=> ?_)
   ·
    refine e_no<|e_no<|e_p (zC rfl rfl)<|e_mv rfl<|e_no<|e_no<|e_p (zC rfl rfl)<|e_p (zC rfl rfl)<|e_mv rfl<|e_no<|e_no<|e_no<|e_no<|e_no<|e_no<|e_p (zC rfl rfl)<|e_p (zb rfl)<|zf ?_
    exact zka () tt9 ((.e rfl (congrArg Value.bool cbu) (.of rfl)):SubM _ _) (ho:=((.of [0,0,0,0,0] rfl):PickO _ _ _)) sN
   ·
    refine e_mv rfl<|e_p (zV rfl rfl)<|e_p (zC rfl rfl)<|zja rfl rfl (zna rfl) (fun h8=> ?_) (fun h8=> ?_)
    ·
     refine e_no<|e_no<|e_p (zC rfl rfl)<|e_p (zC rfl rfl)<|e_mv rfl<|e_no<|e_no<|e_no<|e_no<|e_no<|e_no<|e_p (zC rfl rfl)<|e_p (zb rfl)<|zf ?_
     exact zka () tt9 ((.e rfl (congrArg Value.bool cbu) (.of rfl)):SubM _ _) (ho:=((.of [0,0,0,0,0] rfl):PickO _ _ _)) sN
    ·
     refine e_mv rfl<|e_p (zpa rfl rfl)<|e_p (zC rfl rfl)<|e_p (zC rfl rfl)<|zja rfl rfl (zna rfl) (fun h9=> ?_) (fun h9=> ?_)
     ·
      refine e_no<|e_no<|e_no<|e_no<|e_no<|e_no<|e_p (zC rfl rfl)<|e_p (zb rfl)<|zf ?_
      exact zka () tt9 ((.e rfl (congrArg Value.bool cbu) (.of rfl)):SubM _ _) (ho:=((.of [0,0,0,0,0] rfl):PickO _ _ _)) sN
     ·
      refine e_mv rfl<|e_p (zxa rfl rfl)<|e_mv rfl<|e_no<|e_no<|e_p (zC rfl rfl)<|e_p (zC rfl rfl)<|e_p (zb rfl)<|zf ?_
      exact zka () tt9 ((.e rfl (congrArg Value.bool cbu) (.of rfl)):SubM _ _) (ho:=((.of [0,0,0,0,0] rfl):PickO _ _ _)) sN
 ·
  rintro ⟨⟩ -
  try dsimp only [cw]
  refine zE<|zB ?_
  exact zy Tryz.results3 () trivial (zp rfl) (by first|rfl|exact congrArg Value.bool (decide_eq_true om).symm) (ho:=oN) sN
theorem zFd {f:Int} {b:Int} {p0:Int} {p1:Int} {d:Int} {s1:Int} {s2:Int} (hp0: -32768≤p0∧p0≤32767) (hp1: -32768≤p1∧p1≤32767) (hdr: -32768≤d∧d≤32767) (hs1: -128≤s1∧s1≤127) (hs2: -128≤s2∧s2≤127) (ho:(1≤f∧f≤0x100000∧1≤b∧b≤0x100000)) (hd:d<1):Con Tryz.prog 3 [.agg #[.int .i64 f,.int .i64 b],.agg #[.int .i16 p0,.int .i16 p1,.int .i16 d],.agg #[.int .i8 s1,.int .i8 s2]] [] [] (Y:=Unit) (fun y=>True) (fun y=> .bool true) (fun y=>[]) (fun y=>[]):=by
 refine zl Tryz.func3 rfl rfl rfl (fun c=> ?_)
 show RunC _ _ _ _ _ [(0,.agg #[.int .i64 f,.int .i64 b]),(1,.agg #[.int .i16 p0,.int .i16 p1,.int .i16 d]),(2,.agg #[.int .i8 s1,.int .i8 s2])] [] []
 refine ze<|za<|zD rfl rfl (zT rfl rfl) (fun b1=> ?_)
 refine zD rfl rfl (zT rfl rfl) (fun b2=> ?_)
 refine zD rfl rfl (zT rfl rfl) (fun b3=> ?_)
 refine e_p (zb rfl)<|zf<|zc<|ze<|ze<|za<|zJ rfl rfl (.n) ce6 (zwc) (.n)<|e_p (zcb rfl)<|zf<|zc<|zaa rfl rfl<|zx<|zc<|ze<|zW (OW:=[]) (O:=[boxA b3 26 [.int .i8 s1,.int .i8 s2],boxA b2 24 [.int .i16 p0,.int .i16 p1,.int .i16 d],boxA b1 22 [.int .i64 f,.int .i64 b]]) 8 mixed (.then .ret) kr<|e_pv 0 rfl rfl (zM (i:=0) yd sz3 rfl rfl dd rfl)<|e_u 1 rfl rfl (zg 2 ty3 rfl rfl rfl)<|e_pv 2 rfl rfl (zM (i:=1) yd sz3 rfl rfl dd rfl)<|e_u 3 rfl rfl (zg 2 ty3 rfl rfl rfl)<|e_pv 4 rfl rfl (zM (i:=2) Tryz.underlying24 sz23 rfl rfl dd rfl)<|e_u 5 rfl rfl (zg 1 ty23 rfl rfl rfl)<|e_pv 6 rfl rfl (zt (z:=d) rfl (by rw [Tryz.underlying23];rfl) Tryz.underlying3 (w64 om))<|e_one 7 (zmb rfl rfl rfl rfl (zo zr3 rfl) (fun b4 _=> ?_))
 refine e_one 8 (zr kr rfl rfl rfl rfl rfl sz3 rfl (.take .nil) ?_)
 refine e_pv 9 rfl rfl (zb rfl)<|e_pv 10 rfl rfl (zb rfl)<|zN kr<|zc<|ze<|za<|e_ru (zg 0 ty3 rfl rfl rfl)<|e_mv rfl<|e_mv rfl<|zJ rfl rfl (.c rfl (.c rfl (.c rfl .n))) ce7 (zBd (f:=f) (b:=b) (d:=d) (ho:=ass) (hd:=ass)) (.n)<|e_mv rfl<|e_p (zm rfl rfl)<|e_p (zm rfl rfl)<|zD rfl rfl (zo zr34 rfl) (fun b5=> ?_)
 refine zk 0 rfl rfl rfl rfl rfl sz34 rfl (.t8 .nil) .z<|e_p (zb rfl)<|zf<|zc<|ze<|ze<|za<|e_mv rfl<|e_p (zsa rfl rfl)<|zf<|zc<|zNb rfl rfl<|zib (X:=Unit) (fun x=>True) (fun x=>[(6,.bool (decide (d<1))),(11,.int .i64 15),(10,.pointer (some ⟨b5,0,none⟩)),(9,.int .i64 d),(8,.int .i64 b),(7,.pointer (some ⟨b4,0,none⟩)),(5,.pointer (some ⟨b3,0,none⟩)),(4,.pointer (some ⟨b2,0,none⟩))]) (fun x=>[boxA b5 34 (cw [wz,wz,wz,wz]),boxA b4 3 [.int .i64 f],boxA b3 26 [.int .i8 s1,.int .i8 s2],boxA b2 24 [.int .i16 p0,.int .i16 p1,.int .i16 d],boxA b1 22 [.int .i64 f,.int .i64 b]]) (fun x=>[]) ?_ ?_
 ·
  refine za<|e_mv rfl<|e_p (zxa rfl rfl)<|e_mv rfl<|e_no<|e_no<|e_no<|e_no<|e_no<|e_no<|e_no<|e_no<|e_no<|e_no<|e_no<|e_no<|e_no<|e_no<|e_p (zC rfl rfl)<|e_mv rfl<|e_mv rfl<|e_p (zxa rfl rfl)<|e_mv rfl<|e_mv rfl<|e_p (zV rfl rfl)<|e_p (zC rfl rfl)<|e_p (zC rfl rfl)<|e_p (zb rfl)<|zf ?_
  exact zka () tt9 (mR rfl) (ho:=((.of [0,0,0,0,0] rfl):PickO _ _ _)) sN
 ·
  rintro ⟨⟩ -
  try dsimp only [cw]
  refine zE<|zB ?_
  exact zy Tryz.results3 () trivial (zp rfl) (by first|rfl|exact congrArg Value.bool (decide_eq_true om).symm) (ho:=oN) sN
theorem zie {f:Int} {b:Int} {p0:Int} {p1:Int} {d:Int} {s1:Int} {s2:Int} (hp0: -32768≤p0∧p0≤32767) (hp1: -32768≤p1∧p1≤32767) (hdr: -32768≤d∧d≤32767) (hs1: -128≤s1∧s1≤127) (hs2: -128≤s2∧s2≤127):Con Tryz.prog 3 [.agg #[.int .i64 (f),.int .i64 (b)],.agg #[.int .i16 (p0),.int .i16 (p1),.int .i16 (d)],.agg #[.int .i8 (s1),.int .i8 (s2)]] [] [] (Y:=Unit) (fun y=>True) (fun y=> .bool true) (fun y=>[]) (fun y=>[]):=by
  by_cases ho:(1≤f∧f≤0x100000∧1≤b∧b≤0x100000)
  · by_cases hd : d < 1
    · exact zFd hp0 hp1 hdr hs1 hs2 ho hd
    · exact zDd hp0 hp1 hdr hs1 hs2 ho ⟨by omega,by omega⟩
  · exact zEd hp0 hp1 hdr hs1 hs2 ho
end Go.Proofs.YtpdbimfnhglhpaaGreat.Sp
namespace Go.Proofs.YtpdbimfnhglhpaaGreat.Sp
open Go
set_option linter.unusedVariables false
def rR:Rp (Rat×Rat):=⟨8,Wd×Wd×Wd×Wd,fun _ w=>[w.1.b,w.1.l,w.2.1.b,w.2.1.l,w.2.2.1.b,w.2.2.1.l,w.2.2.2.b,w.2.2.2.l],fun g q w=>(qF true w.1 w.2.1 q.1).on g∧(qF true w.2.2.1 w.2.2.2 q.2).on g,fun _ _ _ _ h k=>⟨(qF true _ _ _).mono _ _ h k.1,(qF true _ _ _).mono _ _ h k.2⟩,fun _ _=>rfl,fun _ _=>rfl⟩
section
variable {P : Program} {c : Cx} {O : List As} {R : List Fa} {α : Type} {T e : TypeId} {r : Rp α} {l : List α} {b : Nat}
end
end Go.Proofs.YtpdbimfnhglhpaaGreat.Sp
namespace Go.Proofs.YtpdbimfnhglhpaaGreat.Sp
open Go Go.RowKit Go.ChangeShapes Go.WideShapes
set_option linter.unusedVariables false
set_option linter.unusedSectionVars false
structure Bk (B:{H:Type}→DataW H→Nat):Prop where
  one:∀{H:Type} (d:DataW H),1≤B d
  slice:∀{H:Type} (es sp:List (DataW H)),(es.map B).sum+1≤B (.slice es sp)
  agg:∀{H:Type} (ps:List (DataW H)),(ps.map B).sum+1≤B (.agg ps)
section
variable {B : {H : Type} → DataW H → Nat} {P : Program} {t e : TypeId} {α β : Type} {r : Rp α} {s : Rp β} {mz : α → Nat} {mw : β → Nat}
def Reads2 {H:Type} (enc:TypeId×Value→H) (P:Program) (W:World) (base:Nat) (sp:Nat→Bool) (held:Bool) (n:Nat) (cs:List Value):List (TypeId×Nat)→List (DataW H×List MemPlace)→Prop
  |[],[]=>True
  |q :: ps,x :: xs=>DataW.trod enc P W base sp held n q.1 ((cs.drop q.2).take (P.cellsOf q.1))=some x∧Reads2 enc P W base sp held n cs ps xs
  |_,_=>False
theorem Reads2.of {H:Type} {enc:TypeId×Value→H} {W:World} {base:Nat} {sp:Nat→Bool} {held:Bool} {n:Nat} {cs:List Value}:∀{ps:List (TypeId×Nat)} {xs:List (DataW H×List MemPlace)},xs.length=ps.length→(∀(i:Nat) (q:TypeId×Nat),ps[i]? =some q→DataW.trod enc P W base sp held n q.1 ((cs.drop q.2).take (P.cellsOf q.1))=xs[i]?)→Reads2 enc P W base sp held n cs ps xs
  |[],[],_,_=>trivial
  |[],_ :: _,h,_=>by simp at h
  |_ :: _,[],h,_=>by simp at h
  |q :: ps,x :: xs,hl,h=>⟨by simpa using h 0 q rfl,Reads2.of (by simpa using hl) fun i q' hq=>by simpa using h (i+1) q' (by simpa using hq)⟩
end
end Go.Proofs.YtpdbimfnhglhpaaGreat.Sp
