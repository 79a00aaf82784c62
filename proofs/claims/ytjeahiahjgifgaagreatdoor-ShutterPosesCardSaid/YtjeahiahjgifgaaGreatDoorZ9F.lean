/- Lemmas on the walk and plain lemmas that the claim of this folder uses; each states its own conditions. Lines were printed by a program of ours. -/
import Derived.Test.YtjeahiahjgifgaaGreatDoorZ9E
set_option linter.unusedVariables false
set_option linter.unusedSimpArgs false
set_option linter.unusedSectionVars false
namespace Go.Proofs.YtjeahiahjgifgaaGreatDoor.Sp
open Go
set_option linter.unusedVariables false
set_option maxRecDepth 100000
set_option maxHeartbeats 8000000
theorem zGe {s:Sh.S} {n:Int} (hfi: -9223372036854775808≤s.fi∧s.fi≤9223372036854775807) (hst: -9223372036854775808≤s.st∧s.st≤9223372036854775807) (hta: -9223372036854775808≤s.ta∧s.ta≤9223372036854775807) (htb: -9223372036854775808≤s.tb∧s.tb≤9223372036854775807) (hxa: -9223372036854775808≤s.xa∧s.xa≤9223372036854775807) (hya: -9223372036854775808≤s.ya∧s.ya≤9223372036854775807) (hza: -9223372036854775808≤s.za∧s.za≤9223372036854775807) (hqa: -9223372036854775808≤s.qa∧s.qa≤9223372036854775807) (hqb: -9223372036854775808≤s.qb∧s.qb≤9223372036854775807) (hqc: -9223372036854775808≤s.qc∧s.qc≤9223372036854775807) (hqd: -9223372036854775808≤s.qd∧s.qd≤9223372036854775807) (hxb: -9223372036854775808≤s.xb∧s.xb≤9223372036854775807) (hyb: -9223372036854775808≤s.yb∧s.yb≤9223372036854775807) (hzb: -9223372036854775808≤s.zb∧s.zb≤9223372036854775807) (hra: -9223372036854775808≤s.ra∧s.ra≤9223372036854775807) (hrb: -9223372036854775808≤s.rb∧s.rb≤9223372036854775807) (hrc: -9223372036854775808≤s.rc∧s.rc≤9223372036854775807) (hrd: -9223372036854775808≤s.rd∧s.rd≤9223372036854775807):Con Tryz.prog 13 [.agg #[.int .i64 (s.fi),.int .i64 (s.st),.int .i64 (s.ta),.int .i64 (s.xa),.int .i64 (s.ya),.int .i64 (s.za),.int .i64 (s.qa),.int .i64 (s.qb),.int .i64 (s.qc),.int .i64 (s.qd),.int .i64 (s.tb),.int .i64 (s.xb),.int .i64 (s.yb),.int .i64 (s.zb),.int .i64 (s.ra),.int .i64 (s.rb),.int .i64 (s.rc),.int .i64 (s.rd)],.int .i64 n] [] [] (Y:=Unit) (fun y=>True) (fun y=> .int .i64 (Sh.chk s n)) (fun y=>[]) (fun y=>[]):=by
 refine zw Tryz.func13 rfl rfl rfl (fun c=> ?_)
 show RunC _ _ _ _ _ [(0,.agg #[.int .i64 (s.fi),.int .i64 (s.st),.int .i64 (s.ta),.int .i64 (s.xa),.int .i64 (s.ya),.int .i64 (s.za),.int .i64 (s.qa),.int .i64 (s.qb),.int .i64 (s.qc),.int .i64 (s.qd),.int .i64 (s.tb),.int .i64 (s.xb),.int .i64 (s.yb),.int .i64 (s.zb),.int .i64 (s.ra),.int .i64 (s.rb),.int .i64 (s.rc),.int .i64 (s.rd)]),(1,.int .i64 n)] [] []
 refine zj<|zc<|zH rfl rfl (zba rfl rfl) (fun b1=> ?_)
 refine e_p (zh rfl)<|zk<|zg<|zj<|zDa (X:=Unit) (fun x=>True) (fun x=>[(28,.bool (decide (n<1∨64<n∨¬Sh.okN s))),(4,.int .i64 0),(2,.pointer (some ⟨b1,0,none⟩)),(1,.int .i64 n)]) (fun x=>[boxA b1 29 (cS s)]) (fun x=>[]) ?_ ?_
 ·
  refine zc<|e_mv rfl<|e_p (zV rfl rfl)<|zia rfl rfl (zma rfl) (fun g1=> ?_) (fun g1=> ?_)
  ·
   refine e_no<|e_no<|e_p (zI rfl rfl)<|e_mv rfl<|e_no<|e_no<|e_no<|e_no<|e_no<|e_no<|e_no<|e_no<|e_no<|e_no<|e_no<|e_no<|e_no<|e_p (zI rfl rfl)<|zk ?_
   exact zha () (show True from by first|trivial|omega|simp_all) ((.e rfl (congrArg Value.bool (by first|exact (decide_eq_true (Or.inl g1)).symm|exact (decide_eq_true (Or.inr (Or.inl g2))).symm|exact decide_eq_decide.2 ⟨fun k=>Or.inr (Or.inr k),fun k=>k.elim (fun e=>absurd e g1) (fun k=>k.elim (fun e=>absurd e g2) _root_.id)⟩)) (.of rfl)):SubM _ _) (ho:=((.c (i:=0) rfl .n):PickO _ _ _)) (.n:SelR _ _ _)
  ·
   refine e_mv rfl<|e_p (zYa rfl rfl)<|e_p (zI rfl rfl)<|zia rfl rfl (zma rfl) (fun g2=> ?_) (fun g2=> ?_)
   ·
    refine e_no<|e_no<|e_no<|e_no<|e_no<|e_no<|e_no<|e_no<|e_no<|e_no<|e_no<|e_no<|e_no<|e_p (zI rfl rfl)<|zk ?_
    exact zha () (show True from by first|trivial|omega|simp_all) ((.e rfl (congrArg Value.bool (by first|exact (decide_eq_true (Or.inl g1)).symm|exact (decide_eq_true (Or.inr (Or.inl g2))).symm|exact decide_eq_decide.2 ⟨fun k=>Or.inr (Or.inr k),fun k=>k.elim (fun e=>absurd e g1) (fun k=>k.elim (fun e=>absurd e g2) _root_.id)⟩)) (.of rfl)):SubM _ _) (ho:=((.c (i:=0) rfl .n):PickO _ _ _)) (.n:SelR _ _ _)
   ·
    refine e_p (zf Tryz.underlying29 rfl sz3 rfl rfl)<|e_ru (zd 0 ty3 rfl rfl rfl)<|e_p (zf Tryz.underlying29 rfl sz3 rfl rfl)<|e_ru (zd 0 ty3 rfl rfl rfl)<|e_p (zf Tryz.underlying29 rfl sz27 rfl rfl)<|e_p (zf Tryz.underlying27 rfl sz3 rfl rfl)<|e_ru (zd 0 ty3 rfl rfl rfl)<|e_p (zf Tryz.underlying29 rfl sz27 rfl rfl)<|e_p (zf Tryz.underlying27 rfl sz3 rfl rfl)<|e_ru (zd 0 ty3 rfl rfl rfl)<|zLa rfl rfl (zS (enc:=fun z:Int=>[.int .i64 z]) (ok:=InK .i64) (h1:=fun _=>rfl) (h2:=fun _=>rfl) (k:=4) Tryz.underlying51 inf3 rfl dd dd dd (.c (x:=s.fi) rfl rfl (fun _ _=>by exact zq.2 om) (.c (x:=s.st) rfl rfl (fun _ _=>by exact zq.2 om) (.c (x:=s.ta) rfl rfl (fun _ _=>by exact zq.2 om) (.c (x:=s.tb) rfl rfl (fun _ _=>by exact zq.2 om) .n))))) (fun b2 _=> ?_)
    refine zqa 0 rfl .z<|zR rfl rfl (.c rfl (.c rfl .n)) ce23 (zzb (p:=some ⟨b2,0,none⟩) (n:=4) (cap:=4) (l:=[s.fi,s.st,s.ta,s.tb]) (m:=1073741824) (hn:=cbd) (hm:=cbd)) (.c (j:=0) rfl .n)<|e_p (zHa rfl)<|e_p (zI rfl rfl)<|zk ?_
    exact zha () (show True from by first|trivial|omega|simp_all) ((.e rfl (congrArg Value.bool (by first|exact (decide_eq_true (Or.inl g1)).symm|exact (decide_eq_true (Or.inr (Or.inl g2))).symm|exact decide_eq_decide.2 ⟨fun k=>Or.inr (Or.inr k),fun k=>k.elim (fun e=>absurd e g1) (fun k=>k.elim (fun e=>absurd e g2) _root_.id)⟩)) (.of rfl)):SubM _ _) (ho:=((.c (i:=1) rfl .n):PickO _ _ _)) (.n:SelR _ _ _)
 ·
  rintro ⟨⟩ -
  try dsimp only
  refine zP rfl (fun h1=> ?_) (fun h1=> ?_)
  ·
   refine zj<|zc<|e_p (zh rfl)<|zk<|zg<|zO<|zt ?_
   exact zL Tryz.results13 () trivial (zB rfl) (by rw [Sh.chk_1 h1]) (ho:=(.n:PickO _ _ _)) (.n:SelR _ _ _)
  ·
   refine zx<|zg<|zj<|zj<|zc<|e_p (zf Tryz.underlying29 rfl sz27 rfl rfl)<|e_ru (ze 0 ty27 rfl rfl (.s2 (.t8 .nil)))<|e_p (zf Tryz.underlying29 rfl sz27 rfl rfl)<|e_ru (ze 0 ty27 rfl rfl (.s8 (.s2 (.t8 .nil))))<|zLa rfl rfl (zS (enc:=fun z:Ep=>[.int .i64 z.tm,.int .i64 z.x,.int .i64 z.y,.int .i64 z.z,.int .i64 z.a,.int .i64 z.b,.int .i64 z.c,.int .i64 z.d]) (ok:=okEp .i64) (h1:=fun _=>rfl) (h2:=fun _=>rfl) (k:=2) Tryz.underlying92 inf27 rfl dd dd dd (.c (x:=(⟨s.ta,s.xa,s.ya,s.za,s.qa,s.qb,s.qc,s.qd⟩:Ep)) rfl rfl (fun _ _=>by exact ⟨zq.2 (by first|omega|decide|(dsimp only;omega)),zq.2 (by first|omega|decide|(dsimp only;omega)),zq.2 (by first|omega|decide|(dsimp only;omega)),zq.2 (by first|omega|decide|(dsimp only;omega)),zq.2 (by first|omega|decide|(dsimp only;omega)),zq.2 (by first|omega|decide|(dsimp only;omega)),zq.2 (by first|omega|decide|(dsimp only;omega)),zq.2 (by first|omega|decide|(dsimp only;omega))⟩) (.c (x:=(⟨s.tb,s.xb,s.yb,s.zb,s.ra,s.rb,s.rc,s.rd⟩:Ep)) rfl rfl (fun _ _=>by exact ⟨zq.2 (by first|omega|decide|(dsimp only;omega)),zq.2 (by first|omega|decide|(dsimp only;omega)),zq.2 (by first|omega|decide|(dsimp only;omega)),zq.2 (by first|omega|decide|(dsimp only;omega)),zq.2 (by first|omega|decide|(dsimp only;omega)),zq.2 (by first|omega|decide|(dsimp only;omega)),zq.2 (by first|omega|decide|(dsimp only;omega)),zq.2 (by first|omega|decide|(dsimp only;omega))⟩) .n))) (fun b3 _=> ?_)
   refine e_p (zea Tryz.underlying92 rfl)<|e_mv rfl<|zk<|zg<|zv<|zQa<|zY<|zj<|zc<|e_p (zV rfl rfl)<|zk<|zg<|zj<|zaa rfl rfl<|zx<|zg<|zj<|zv<|zj<|zc<|e_p (zsa (j:=0) Tryz.underlying92 sz27 rfl rfl rfl (by first|omega|(simp;done)))<|r_vl rfl rfl (zpb 0 0 rfl ty27 rfl rfl (gD (d:=ep0) (by first|omega|(simp;done)))) (fun _ hok4=> ?_)
   obtain ⟨hok40,hok41,hok42,hok43,hok44,hok45,hok46,hok47⟩:=hok4
   replace hok40:=zq.1 hok40
   replace hok41:=zq.1 hok41
   replace hok42:=zq.1 hok42
   replace hok43:=zq.1 hok43
   replace hok44:=zq.1 hok44
   replace hok45:=zq.1 hok45
   replace hok46:=zq.1 hok46
   replace hok47:=zq.1 hok47
   refine zH rfl rfl (zo zr27 rfl) (fun b5=> ?_)
   refine zl 0 rfl rfl rfl rfl rfl sz27 rfl (.t8 .nil) .z<|zk<|zg ?_
   have e6:((([(⟨s.ta,s.xa,s.ya,s.za,s.qa,s.qb,s.qc,s.qd⟩:Ep),(⟨s.tb,s.xb,s.yb,s.zb,s.ra,s.rb,s.rc,s.rd⟩:Ep)]).getD 0 ep0).tm:Int)=s.ta:=by rfl
   rw [e6]
   have e7:((([(⟨s.ta,s.xa,s.ya,s.za,s.qa,s.qb,s.qc,s.qd⟩:Ep),(⟨s.tb,s.xb,s.yb,s.zb,s.ra,s.rb,s.rc,s.rd⟩:Ep)]).getD 0 ep0).x:Int)=s.xa:=by rfl
   rw [e7]
   have e8:((([(⟨s.ta,s.xa,s.ya,s.za,s.qa,s.qb,s.qc,s.qd⟩:Ep),(⟨s.tb,s.xb,s.yb,s.zb,s.ra,s.rb,s.rc,s.rd⟩:Ep)]).getD 0 ep0).y:Int)=s.ya:=by rfl
   rw [e8]
   have e9:((([(⟨s.ta,s.xa,s.ya,s.za,s.qa,s.qb,s.qc,s.qd⟩:Ep),(⟨s.tb,s.xb,s.yb,s.zb,s.ra,s.rb,s.rc,s.rd⟩:Ep)]).getD 0 ep0).z:Int)=s.za:=by rfl
   rw [e9]
   have e10:((([(⟨s.ta,s.xa,s.ya,s.za,s.qa,s.qb,s.qc,s.qd⟩:Ep),(⟨s.tb,s.xb,s.yb,s.zb,s.ra,s.rb,s.rc,s.rd⟩:Ep)]).getD 0 ep0).a:Int)=s.qa:=by rfl
   rw [e10]
   have e11:((([(⟨s.ta,s.xa,s.ya,s.za,s.qa,s.qb,s.qc,s.qd⟩:Ep),(⟨s.tb,s.xb,s.yb,s.zb,s.ra,s.rb,s.rc,s.rd⟩:Ep)]).getD 0 ep0).b:Int)=s.qb:=by rfl
   rw [e11]
   have e12:((([(⟨s.ta,s.xa,s.ya,s.za,s.qa,s.qb,s.qc,s.qd⟩:Ep),(⟨s.tb,s.xb,s.yb,s.zb,s.ra,s.rb,s.rc,s.rd⟩:Ep)]).getD 0 ep0).c:Int)=s.qc:=by rfl
   rw [e12]
   have e13:((([(⟨s.ta,s.xa,s.ya,s.za,s.qa,s.qb,s.qc,s.qd⟩:Ep),(⟨s.tb,s.xb,s.yb,s.zb,s.ra,s.rb,s.rc,s.rd⟩:Ep)]).getD 0 ep0).d:Int)=s.qd:=by rfl
   rw [e13]
   refine zDa (X:=Unit) (fun x=>True) (fun x=>[(67,.bool (decide ((¬(Sh.wi 1048576 ([s.xa,s.ya,s.za])))∨(¬(Sh.wi 32768 ([s.qa,s.qb,s.qc,s.qd])))))),(6,.pointer (some ⟨b5,0,none⟩)),(38,.agg #[.int .i64 (s.ta),.int .i64 (s.xa),.int .i64 (s.ya),.int .i64 (s.za),.int .i64 (s.qa),.int .i64 (s.qb),.int .i64 (s.qc),.int .i64 (s.qd)]),(37,rowPtr (some ⟨b3,0,none⟩) (0*8)),(36,.bool true),(35,.int .i64 0),(34,.int .i64 2),(33,.slice (some ⟨b3,0,none⟩) 2 2),(4,.int .i64 0),(2,.pointer (some ⟨b1,0,none⟩)),(1,.int .i64 n)]) (fun x=>[boxA b5 27 [.int .i64 (s.ta),.int .i64 (s.xa),.int .i64 (s.ya),.int .i64 (s.za),.int .i64 (s.qa),.int .i64 (s.qb),.int .i64 (s.qc),.int .i64 (s.qd)],rowA 27 (rI8 .i64) (some ⟨b3,0,none⟩) 2 ([(⟨s.ta,s.xa,s.ya,s.za,s.qa,s.qb,s.qc,s.qd⟩:Ep),(⟨s.tb,s.xb,s.yb,s.zb,s.ra,s.rb,s.rc,s.rd⟩:Ep)]),boxA b1 29 (cS s)]) (fun x=>[]) ?_ ?_
   ·
    refine zc<|e_p (zf Tryz.underlying27 rfl sz23 rfl rfl)<|e_p (zf Tryz.underlying23 rfl sz3 rfl rfl)<|e_ru (zd 0 ty3 rfl rfl rfl)<|e_p (zf Tryz.underlying27 rfl sz23 rfl rfl)<|e_p (zf Tryz.underlying23 rfl sz3 rfl rfl)<|e_ru (zd 0 ty3 rfl rfl rfl)<|e_p (zf Tryz.underlying27 rfl sz23 rfl rfl)<|e_p (zf Tryz.underlying23 rfl sz3 rfl rfl)<|e_ru (zd 0 ty3 rfl rfl rfl)<|zLa rfl rfl (zS (enc:=fun z:Int=>[.int .i64 z]) (ok:=InK .i64) (h1:=fun _=>rfl) (h2:=fun _=>rfl) (k:=3) Tryz.underlying51 inf3 rfl dd dd dd (.c (x:=s.xa) rfl rfl (fun _ _=>by exact zq.2 om) (.c (x:=s.ya) rfl rfl (fun _ _=>by exact zq.2 om) (.c (x:=s.za) rfl rfl (fun _ _=>by exact zq.2 om) .n)))) (fun b14 _=> ?_)
    refine zqa 0 rfl .z<|zR rfl rfl (.c rfl (.c rfl .n)) ce23 (zzb (p:=some ⟨b14,0,none⟩) (n:=3) (cap:=3) (l:=[s.xa,s.ya,s.za]) (m:=1048576) (hn:=cbd) (hm:=cbd)) (.c (j:=0) rfl .n)<|e_p (zHa rfl)<|zia rfl rfl (zma rfl) (fun h15=> ?_) (fun h15=> ?_)
    ·
     refine e_no<|e_no<|e_no<|e_no<|e_no<|e_no<|e_no<|e_no<|e_no<|e_no<|e_no<|e_no<|e_no<|e_no<|e_no<|e_p (zI rfl rfl)<|zk ?_
     exact zha () (show True from by first|trivial|omega|simp_all) ((.e rfl (congrArg Value.bool cbu) (.of rfl)):SubM _ _) (ho:=((.of [1,1,1] rfl):PickO _ _ _)) (.n:SelR _ _ _)
    ·
     refine e_p (zf Tryz.underlying27 rfl sz25 rfl rfl)<|e_p (zf Tryz.underlying25 rfl sz3 rfl rfl)<|e_ru (zd 1 ty3 rfl rfl rfl)<|e_p (zf Tryz.underlying27 rfl sz25 rfl rfl)<|e_p (zf Tryz.underlying25 rfl sz3 rfl rfl)<|e_ru (zd 1 ty3 rfl rfl rfl)<|e_p (zf Tryz.underlying27 rfl sz25 rfl rfl)<|e_p (zf Tryz.underlying25 rfl sz3 rfl rfl)<|e_ru (zd 1 ty3 rfl rfl rfl)<|e_p (zf Tryz.underlying27 rfl sz25 rfl rfl)<|e_p (zf Tryz.underlying25 rfl sz3 rfl rfl)<|e_ru (zd 1 ty3 rfl rfl rfl)<|zLa rfl rfl (zS (enc:=fun z:Int=>[.int .i64 z]) (ok:=InK .i64) (h1:=fun _=>rfl) (h2:=fun _=>rfl) (k:=4) Tryz.underlying51 inf3 rfl dd dd dd (.c (x:=s.qa) rfl rfl (fun _ _=>by exact zq.2 om) (.c (x:=s.qb) rfl rfl (fun _ _=>by exact zq.2 om) (.c (x:=s.qc) rfl rfl (fun _ _=>by exact zq.2 om) (.c (x:=s.qd) rfl rfl (fun _ _=>by exact zq.2 om) .n))))) (fun b16 _=> ?_)
     refine zqa 0 rfl .z<|zR rfl rfl (.c rfl (.c rfl .n)) ce23 (zzb (p:=some ⟨b16,0,none⟩) (n:=4) (cap:=4) (l:=[s.qa,s.qb,s.qc,s.qd]) (m:=32768) (hn:=cbd) (hm:=cbd)) (.c (j:=0) rfl .n)<|e_p (zHa rfl)<|e_p (zI rfl rfl)<|zk ?_
     exact zha () (show True from by first|trivial|omega|simp_all) ((.e rfl (congrArg Value.bool cbu) (.of rfl)):SubM _ _) (ho:=((.of [2,2,2] rfl):PickO _ _ _)) (.n:SelR _ _ _)
   ·
    rintro ⟨⟩ -
    try dsimp only
    refine zP rfl (fun hA=> ?_) (fun hA=> ?_)
    ·
     have hbad:¬Sh.okA s:=fun k=>hA.elim (fun e=>e k.1) (fun e=>e k.2)
     refine zj<|zc<|e_p (zh rfl)<|zk<|zg<|zO<|zda<|zt<|zt<|zda<|zt ?_
     exact zL Tryz.results13 () trivial (zB rfl) (by rw [Sh.chk_2 h1 hbad]) (ho:=(.n:PickO _ _ _)) (.n:SelR _ _ _)
    ·
     have hokA:Sh.okA s:=⟨Decidable.not_not.1 (fun e=>hA (Or.inl e)),Decidable.not_not.1 (fun e=>hA (Or.inr e))⟩
     refine zx<|zK<|zg<|zc<|e_p (zJ (z:=1) rfl rfl (w64 dd))<|e_mv rfl<|zk<|zfa<|zY<|zj<|zc<|e_p (zV rfl rfl)<|zk<|zg<|zj<|zaa rfl rfl<|zx<|zg<|zj<|zv<|zj<|zc<|e_p (zsa (j:=1) Tryz.underlying92 sz27 rfl rfl rfl (by first|omega|(simp;done)))<|r_vl rfl rfl (zpb 1 1 rfl ty27 rfl rfl (gD (d:=ep0) (by first|omega|(simp;done)))) (fun _ hok17=> ?_)
     obtain ⟨hok170,hok171,hok172,hok173,hok174,hok175,hok176,hok177⟩:=hok17
     replace hok170:=zq.1 hok170
     replace hok171:=zq.1 hok171
     replace hok172:=zq.1 hok172
     replace hok173:=zq.1 hok173
     replace hok174:=zq.1 hok174
     replace hok175:=zq.1 hok175
     replace hok176:=zq.1 hok176
     replace hok177:=zq.1 hok177
     refine zH rfl rfl (zo zr27 rfl) (fun b18=> ?_)
     refine zl 0 rfl rfl rfl rfl rfl sz27 rfl (.t8 .nil) .z<|zk<|zg ?_
     have e19:((([(⟨s.ta,s.xa,s.ya,s.za,s.qa,s.qb,s.qc,s.qd⟩:Ep),(⟨s.tb,s.xb,s.yb,s.zb,s.ra,s.rb,s.rc,s.rd⟩:Ep)]).getD 1 ep0).tm:Int)=s.tb:=by rfl
     rw [e19]
     have e20:((([(⟨s.ta,s.xa,s.ya,s.za,s.qa,s.qb,s.qc,s.qd⟩:Ep),(⟨s.tb,s.xb,s.yb,s.zb,s.ra,s.rb,s.rc,s.rd⟩:Ep)]).getD 1 ep0).x:Int)=s.xb:=by rfl
     rw [e20]
     have e21:((([(⟨s.ta,s.xa,s.ya,s.za,s.qa,s.qb,s.qc,s.qd⟩:Ep),(⟨s.tb,s.xb,s.yb,s.zb,s.ra,s.rb,s.rc,s.rd⟩:Ep)]).getD 1 ep0).y:Int)=s.yb:=by rfl
     rw [e21]
     have e22:((([(⟨s.ta,s.xa,s.ya,s.za,s.qa,s.qb,s.qc,s.qd⟩:Ep),(⟨s.tb,s.xb,s.yb,s.zb,s.ra,s.rb,s.rc,s.rd⟩:Ep)]).getD 1 ep0).z:Int)=s.zb:=by rfl
     rw [e22]
     have e23:((([(⟨s.ta,s.xa,s.ya,s.za,s.qa,s.qb,s.qc,s.qd⟩:Ep),(⟨s.tb,s.xb,s.yb,s.zb,s.ra,s.rb,s.rc,s.rd⟩:Ep)]).getD 1 ep0).a:Int)=s.ra:=by rfl
     rw [e23]
     have e24:((([(⟨s.ta,s.xa,s.ya,s.za,s.qa,s.qb,s.qc,s.qd⟩:Ep),(⟨s.tb,s.xb,s.yb,s.zb,s.ra,s.rb,s.rc,s.rd⟩:Ep)]).getD 1 ep0).b:Int)=s.rb:=by rfl
     rw [e24]
     have e25:((([(⟨s.ta,s.xa,s.ya,s.za,s.qa,s.qb,s.qc,s.qd⟩:Ep),(⟨s.tb,s.xb,s.yb,s.zb,s.ra,s.rb,s.rc,s.rd⟩:Ep)]).getD 1 ep0).c:Int)=s.rc:=by rfl
     rw [e25]
     have e26:((([(⟨s.ta,s.xa,s.ya,s.za,s.qa,s.qb,s.qc,s.qd⟩:Ep),(⟨s.tb,s.xb,s.yb,s.zb,s.ra,s.rb,s.rc,s.rd⟩:Ep)]).getD 1 ep0).d:Int)=s.rd:=by rfl
     rw [e26]
     refine zDa (X:=Unit) (fun x=>True) (fun x=>[(67,.bool (decide ((¬(Sh.wi 1048576 ([s.xb,s.yb,s.zb])))∨(¬(Sh.wi 32768 ([s.ra,s.rb,s.rc,s.rd])))))),(6,.pointer (some ⟨b18,0,none⟩)),(38,.agg #[.int .i64 (s.tb),.int .i64 (s.xb),.int .i64 (s.yb),.int .i64 (s.zb),.int .i64 (s.ra),.int .i64 (s.rb),.int .i64 (s.rc),.int .i64 (s.rd)]),(37,rowPtr (some ⟨b3,0,none⟩) (1*8)),(36,.bool true),(35,.int .i64 1),(68,.int .i64 1),(34,.int .i64 2),(33,.slice (some ⟨b3,0,none⟩) 2 2),(4,.int .i64 0),(2,.pointer (some ⟨b1,0,none⟩)),(1,.int .i64 n)]) (fun x=>[boxA b18 27 [.int .i64 (s.tb),.int .i64 (s.xb),.int .i64 (s.yb),.int .i64 (s.zb),.int .i64 (s.ra),.int .i64 (s.rb),.int .i64 (s.rc),.int .i64 (s.rd)],boxA b5 27 [.int .i64 (s.ta),.int .i64 (s.xa),.int .i64 (s.ya),.int .i64 (s.za),.int .i64 (s.qa),.int .i64 (s.qb),.int .i64 (s.qc),.int .i64 (s.qd)],rowA 27 (rI8 .i64) (some ⟨b3,0,none⟩) 2 ([(⟨s.ta,s.xa,s.ya,s.za,s.qa,s.qb,s.qc,s.qd⟩:Ep),(⟨s.tb,s.xb,s.yb,s.zb,s.ra,s.rb,s.rc,s.rd⟩:Ep)]),boxA b1 29 (cS s)]) (fun x=>[]) ?_ ?_
     ·
      refine zc<|e_p (zf Tryz.underlying27 rfl sz23 rfl rfl)<|e_p (zf Tryz.underlying23 rfl sz3 rfl rfl)<|e_ru (zd 0 ty3 rfl rfl rfl)<|e_p (zf Tryz.underlying27 rfl sz23 rfl rfl)<|e_p (zf Tryz.underlying23 rfl sz3 rfl rfl)<|e_ru (zd 0 ty3 rfl rfl rfl)<|e_p (zf Tryz.underlying27 rfl sz23 rfl rfl)<|e_p (zf Tryz.underlying23 rfl sz3 rfl rfl)<|e_ru (zd 0 ty3 rfl rfl rfl)<|zLa rfl rfl (zS (enc:=fun z:Int=>[.int .i64 z]) (ok:=InK .i64) (h1:=fun _=>rfl) (h2:=fun _=>rfl) (k:=3) Tryz.underlying51 inf3 rfl dd dd dd (.c (x:=s.xb) rfl rfl (fun _ _=>by exact zq.2 om) (.c (x:=s.yb) rfl rfl (fun _ _=>by exact zq.2 om) (.c (x:=s.zb) rfl rfl (fun _ _=>by exact zq.2 om) .n)))) (fun b27 _=> ?_)
      refine zqa 0 rfl .z<|zR rfl rfl (.c rfl (.c rfl .n)) ce23 (zzb (p:=some ⟨b27,0,none⟩) (n:=3) (cap:=3) (l:=[s.xb,s.yb,s.zb]) (m:=1048576) (hn:=cbd) (hm:=cbd)) (.c (j:=0) rfl .n)<|e_p (zHa rfl)<|zia rfl rfl (zma rfl) (fun h28=> ?_) (fun h28=> ?_)
      ·
       refine e_no<|e_no<|e_no<|e_no<|e_no<|e_no<|e_no<|e_no<|e_no<|e_no<|e_no<|e_no<|e_no<|e_no<|e_no<|e_p (zI rfl rfl)<|zk ?_
       exact zha () (show True from by first|trivial|omega|simp_all) ((.e rfl (congrArg Value.bool cbu) (.of rfl)):SubM _ _) (ho:=((.of [1,1,1,1] rfl):PickO _ _ _)) (.n:SelR _ _ _)
      ·
       refine e_p (zf Tryz.underlying27 rfl sz25 rfl rfl)<|e_p (zf Tryz.underlying25 rfl sz3 rfl rfl)<|e_ru (zd 1 ty3 rfl rfl rfl)<|e_p (zf Tryz.underlying27 rfl sz25 rfl rfl)<|e_p (zf Tryz.underlying25 rfl sz3 rfl rfl)<|e_ru (zd 1 ty3 rfl rfl rfl)<|e_p (zf Tryz.underlying27 rfl sz25 rfl rfl)<|e_p (zf Tryz.underlying25 rfl sz3 rfl rfl)<|e_ru (zd 1 ty3 rfl rfl rfl)<|e_p (zf Tryz.underlying27 rfl sz25 rfl rfl)<|e_p (zf Tryz.underlying25 rfl sz3 rfl rfl)<|e_ru (zd 1 ty3 rfl rfl rfl)<|zLa rfl rfl (zS (enc:=fun z:Int=>[.int .i64 z]) (ok:=InK .i64) (h1:=fun _=>rfl) (h2:=fun _=>rfl) (k:=4) Tryz.underlying51 inf3 rfl dd dd dd (.c (x:=s.ra) rfl rfl (fun _ _=>by exact zq.2 om) (.c (x:=s.rb) rfl rfl (fun _ _=>by exact zq.2 om) (.c (x:=s.rc) rfl rfl (fun _ _=>by exact zq.2 om) (.c (x:=s.rd) rfl rfl (fun _ _=>by exact zq.2 om) .n))))) (fun b29 _=> ?_)
       refine zqa 0 rfl .z<|zR rfl rfl (.c rfl (.c rfl .n)) ce23 (zzb (p:=some ⟨b29,0,none⟩) (n:=4) (cap:=4) (l:=[s.ra,s.rb,s.rc,s.rd]) (m:=32768) (hn:=cbd) (hm:=cbd)) (.c (j:=0) rfl .n)<|e_p (zHa rfl)<|e_p (zI rfl rfl)<|zk ?_
       exact zha () (show True from by first|trivial|omega|simp_all) ((.e rfl (congrArg Value.bool cbu) (.of rfl)):SubM _ _) (ho:=((.of [2,2,2,2] rfl):PickO _ _ _)) (.n:SelR _ _ _)
     ·
      rintro ⟨⟩ -
      try dsimp only
      refine zP rfl (fun hA=> ?_) (fun hA=> ?_)
      ·
       have hbad:¬Sh.okB s:=fun k=>hA.elim (fun e=>e k.1) (fun e=>e k.2)
       refine zj<|zc<|e_p (zh rfl)<|zk<|zg<|zO<|zda<|zt<|zt<|zda<|zt ?_
       exact zL Tryz.results13 () trivial (zB rfl) (by rw [Sh.chk_3 h1 hokA hbad]) (ho:=(.n:PickO _ _ _)) (.n:SelR _ _ _)
      ·
       have hokB:Sh.okB s:=⟨Decidable.not_not.1 (fun e=>hA (Or.inl e)),Decidable.not_not.1 (fun e=>hA (Or.inr e))⟩
       refine zx<|zK<|zg<|zc<|e_p (zJ (z:=2) rfl rfl (w64 dd))<|e_mv rfl<|zk<|zfa<|zY<|zj<|zc<|e_p (zV rfl rfl)<|zk<|zg<|zj<|zua rfl rfl<|zpa<|zn<|zn<|zD<|zg<|zj<|zDa (X:=Unit) (fun x=>True) (fun x=>[(89,.bool (decide (((s.qa=0∧s.qb=0∧s.qc=0∧s.qd=0)∨(s.ra=0∧s.rb=0∧s.rc=0∧s.rd=0))∨(s.tb≤s.ta)))),(4,.int .i64 0),(2,.pointer (some ⟨b1,0,none⟩)),(1,.int .i64 n)]) (fun x=>[boxA b18 27 [.int .i64 (s.tb),.int .i64 (s.xb),.int .i64 (s.yb),.int .i64 (s.zb),.int .i64 (s.ra),.int .i64 (s.rb),.int .i64 (s.rc),.int .i64 (s.rd)],boxA b5 27 [.int .i64 (s.ta),.int .i64 (s.xa),.int .i64 (s.ya),.int .i64 (s.za),.int .i64 (s.qa),.int .i64 (s.qb),.int .i64 (s.qc),.int .i64 (s.qd)],rowA 27 (rI8 .i64) (some ⟨b3,0,none⟩) 2 ([(⟨s.ta,s.xa,s.ya,s.za,s.qa,s.qb,s.qc,s.qd⟩:Ep),(⟨s.tb,s.xb,s.yb,s.zb,s.ra,s.rb,s.rc,s.rd⟩:Ep)]),boxA b1 29 (cS s)]) (fun x=>[]) ?_ ?_
       ·
        refine zc<|e_p (zf Tryz.underlying29 rfl sz27 rfl rfl)<|e_p (zf Tryz.underlying27 rfl sz25 rfl rfl)<|e_ru (ze 3 ty25 rfl rfl (.s4 (.s2 (.t4 .nil))))<|e_p (zu zr25 rfl Tryz.underlying25 (.c sz3 (.c sz3 (.c sz3 (.c sz3 .n)))) .n .n)<|e_p (zPa (p:=s.qa=0∧s.qb=0∧s.qc=0∧s.qd=0) kr rfl rfl (zOa Tryz.underlying25 kr (zoa dd ty3 rfl rfl (zna Tryz.underlying3) (zoa dd ty3 rfl rfl (zna Tryz.underlying3) (zoa dd ty3 rfl rfl (zna Tryz.underlying3) (zoa dd ty3 rfl rfl (zna Tryz.underlying3) zxb))))) (by simp [Bool.decide_and]))<|zia rfl rfl (zma rfl) (fun h30=> ?_) (fun h30=> ?_)
        ·
         refine e_no<|e_no<|e_no<|e_no<|e_no<|e_p (zI rfl rfl)<|e_mv rfl<|e_no<|e_no<|e_no<|e_no<|e_no<|e_no<|e_no<|e_p (zI rfl rfl)<|zk ?_
         exact zha () (show True from by first|trivial|omega|simp_all) ((.e rfl (congrArg Value.bool cbu) (.of rfl)):SubM _ _) (ho:=((.of [0,0,0,0] rfl):PickO _ _ _)) (.n:SelR _ _ _)
        ·
         refine e_p (zf Tryz.underlying29 rfl sz27 rfl rfl)<|e_p (zf Tryz.underlying27 rfl sz25 rfl rfl)<|e_ru (ze 3 ty25 rfl rfl (.s8 (.s4 (.s2 (.t4 .nil)))))<|e_p (zu zr25 rfl Tryz.underlying25 (.c sz3 (.c sz3 (.c sz3 (.c sz3 .n)))) .n .n)<|e_p (zPa (p:=s.ra=0∧s.rb=0∧s.rc=0∧s.rd=0) kr rfl rfl (zOa Tryz.underlying25 kr (zoa dd ty3 rfl rfl (zna Tryz.underlying3) (zoa dd ty3 rfl rfl (zna Tryz.underlying3) (zoa dd ty3 rfl rfl (zna Tryz.underlying3) (zoa dd ty3 rfl rfl (zna Tryz.underlying3) zxb))))) (by simp [Bool.decide_and]))<|e_p (zI rfl rfl)<|zia rfl rfl (zma rfl) (fun h31=> ?_) (fun h31=> ?_)
         ·
          refine e_no<|e_no<|e_no<|e_no<|e_no<|e_no<|e_no<|e_p (zI rfl rfl)<|zk ?_
          exact zha () (show True from by first|trivial|omega|simp_all) ((.e rfl (congrArg Value.bool cbu) (.of rfl)):SubM _ _) (ho:=((.of [0,0,0,0] rfl):PickO _ _ _)) (.n:SelR _ _ _)
         ·
          refine e_p (zf Tryz.underlying29 rfl sz27 rfl rfl)<|e_p (zf Tryz.underlying27 rfl sz3 rfl rfl)<|e_ru (zd 3 ty3 rfl rfl rfl)<|e_p (zf Tryz.underlying29 rfl sz27 rfl rfl)<|e_p (zf Tryz.underlying27 rfl sz3 rfl rfl)<|e_ru (zd 3 ty3 rfl rfl rfl)<|e_p (zHc rfl rfl)<|e_p (zI rfl rfl)<|zk ?_
          exact zha () (show True from by first|trivial|omega|simp_all) ((.e rfl (congrArg Value.bool cbu) (.of rfl)):SubM _ _) (ho:=((.of [0,0,0,0] rfl):PickO _ _ _)) (.n:SelR _ _ _)
       ·
        rintro ⟨⟩ -
        try dsimp only
        refine zP rfl (fun h4=> ?_) (fun h4=> ?_)
        ·
         refine zj<|zc<|e_p (zh rfl)<|zk<|zg<|zO<|zt ?_
         exact zL Tryz.results13 () trivial (zB rfl) (by rw [Sh.chk_4 h1 hokA hokB (or_assoc.1 h4)]) (ho:=(.n:PickO _ _ _)) (.n:SelR _ _ _)
        ·
         have hok:Sh.Ok s:=Sh.ok_of (Decidable.not_not.1 fun e=>h1 (Or.inr (Or.inr e))) hokA hokB
         refine zx<|zg<|zj<|zj<|zc<|e_mv rfl<|e_mv rfl<|zk<|zg<|zv<|zya (X:=Nat) (fun x:Nat=>x≤n.toNat∧∀j:Nat,j<x→¬Sh.z4 (Sh.rot s (j:Int))) (fun x=>[(91,.int .i64 ((x:Nat):Int)),(90,.int .i64 n),(2,.pointer (some ⟨b1,0,none⟩))]) (fun x=>[boxA b18 27 [.int .i64 (s.tb),.int .i64 (s.xb),.int .i64 (s.yb),.int .i64 (s.zb),.int .i64 (s.ra),.int .i64 (s.rb),.int .i64 (s.rc),.int .i64 (s.rd)],boxA b5 27 [.int .i64 (s.ta),.int .i64 (s.xa),.int .i64 (s.ya),.int .i64 (s.za),.int .i64 (s.qa),.int .i64 (s.qb),.int .i64 (s.qc),.int .i64 (s.qd)],rowA 27 (rI8 .i64) (some ⟨b3,0,none⟩) 2 ([(⟨s.ta,s.xa,s.ya,s.za,s.qa,s.qb,s.qc,s.qd⟩:Ep),(⟨s.tb,s.xb,s.yb,s.zb,s.ra,s.rb,s.rc,s.rd⟩:Ep)]),boxA b1 29 (cS s)]) (fun x=>[]) (fun x:Nat=>n.toNat - x) 0 (show 0≤n.toNat∧∀j:Nat,j<0→¬Sh.z4 (Sh.rot s (j:Int)) from by exact ⟨Nat.zero_le _,fun j h=>by omega⟩) ((.e rfl (by first|rfl|(congr 1;omega)|simp_all) (.c rfl (.c rfl .n))):SubM _ _) (ho:=((.of [0,0,0,0] rfl):PickO _ _ _)) (.n:SelR _ _ _) ?_
         rintro r hI
         replace hI:r≤n.toNat∧∀j:Nat,j<r→¬Sh.z4 (Sh.rot s (j:Int)):=hI
         try dsimp only
         obtain ⟨hr,hall⟩:=hI
         refine zj<|zc<|e_p (zV rfl rfl)<|zk<|zg<|zj<|zP rfl (fun h32=> ?_) (fun h32=> ?_)
         ·
          refine zx<|zg<|zj<|zv<|zj<|zc<|e_mv rfl<|e_p (zh rfl)<|zk<|zg<|zj<|zc<|e_ru (ze 3 ty29 rfl rfl (.t8 (.t8 (.t2 .nil))))<|e_mv rfl<|zR rfl rfl (.c rfl (.c rfl .n)) ce33 (zDd (s:=s) (r:=((r:Nat):Int)) (hok:=cbd) (hr:=cbd)) (.n)<|e_p (zu zr25 rfl Tryz.underlying25 (.c sz3 (.c sz3 (.c sz3 (.c sz3 .n)))) .n .n)<|e_p (zPa (p:=(Sh.rot s ((r:Nat):Int)).1=0∧(Sh.rot s ((r:Nat):Int)).2.1=0∧(Sh.rot s ((r:Nat):Int)).2.2.1=0∧(Sh.rot s ((r:Nat):Int)).2.2.2=0) kr rfl rfl (zOa Tryz.underlying25 kr (zoa dd ty3 rfl rfl (zna Tryz.underlying3) (zoa dd ty3 rfl rfl (zna Tryz.underlying3) (zoa dd ty3 rfl rfl (zna Tryz.underlying3) (zoa dd ty3 rfl rfl (zna Tryz.underlying3) zxb))))) (by simp [Bool.decide_and]))<|zk<|zg<|zP rfl (fun hz4=> ?_) (fun hz4=> ?_)
          ·
           refine zj<|zc<|e_p (zh rfl)<|zk<|zg<|zO<|zda<|zt<|zt<|zda<|zt ?_
           exact zL Tryz.results13 () trivial (zB rfl) (by rw [Sh.chk_5 h1 hokA hokB (fun k=>h4 (or_assoc.2 k)) ⟨r,by omega,hz4⟩]) (ho:=(.n:PickO _ _ _)) (.n:SelR _ _ _)
          ·
           refine zx<|zK<|zg<|zc<|e_p (zJ (z:=(((r+1):Nat):Int)) rfl rfl (w64 om))<|e_mv rfl<|zk<|zxa (r+1) (show (r+1)≤n.toNat∧∀j:Nat,j<(r+1)→¬Sh.z4 (Sh.rot s (j:Int)) from by refine ⟨by omega,fun j hj=> ?_⟩;by_cases e:j=r;(subst e;exact hz4);exact hall j om) (by show n.toNat - (r+1)<n.toNat - r;omega) ((.of rfl):SubM _ _) (ho:=((.of [0,0,0,0] rfl):PickO _ _ _)) (.n:SelR _ _ _)
         ·
          refine zpa<|zn<|zn<|zD<|zg<|zj<|zc<|e_p (zh rfl)<|zk<|zg<|zO ?_
          exact zL Tryz.results13 () trivial (zB rfl) (by rw [Sh.chk_6 h1 hokA hokB (fun k=>h4 (or_assoc.2 k)) (fun ⟨j,hj,k⟩=>hall j om k)]) (ho:=(.n:PickO _ _ _)) (.n:SelR _ _ _)
theorem zEd {s:Sh.S} {r:Int} (hok:Sh.Ok s) (hr:0≤r∧r≤64) (hlt:s.ta<s.tb):Con Tryz.prog 51 [.agg #[.int .i64 (s.fi),.int .i64 (s.st),.int .i64 (s.ta),.int .i64 (s.xa),.int .i64 (s.ya),.int .i64 (s.za),.int .i64 (s.qa),.int .i64 (s.qb),.int .i64 (s.qc),.int .i64 (s.qd),.int .i64 (s.tb),.int .i64 (s.xb),.int .i64 (s.yb),.int .i64 (s.zb),.int .i64 (s.ra),.int .i64 (s.rb),.int .i64 (s.rc),.int .i64 (s.rd)],.int .i64 r] [] [] (Y:=Wd×Wd×Wd×Wd×Wd×Wd) (fun y=>True) (fun y=> .agg #[y.1.b,y.1.l,y.2.1.b,y.2.1.l,y.2.2.1.b,y.2.2.1.l,y.2.2.2.1.b,y.2.2.2.1.l,y.2.2.2.2.1.b,y.2.2.2.2.1.l,y.2.2.2.2.2.b,y.2.2.2.2.2.l]) (fun y=>[]) (fun y=>[qF true y.1 y.2.1 ((Sh.pos s r).1),qF true y.2.2.1 y.2.2.2.1 ((Sh.pos s r).2.1),qF true y.2.2.2.2.1 y.2.2.2.2.2 ((Sh.pos s r).2.2)]):=by
 refine zw Tryz.func51 rfl rfl rfl (fun c=> ?_)
 show RunC _ _ _ _ _ [(0,.agg #[.int .i64 (s.fi),.int .i64 (s.st),.int .i64 (s.ta),.int .i64 (s.xa),.int .i64 (s.ya),.int .i64 (s.za),.int .i64 (s.qa),.int .i64 (s.qb),.int .i64 (s.qc),.int .i64 (s.qd),.int .i64 (s.tb),.int .i64 (s.xb),.int .i64 (s.yb),.int .i64 (s.zb),.int .i64 (s.ra),.int .i64 (s.rb),.int .i64 (s.rc),.int .i64 (s.rd)]),(1,.int .i64 r)] [] []
 have hn:=hok.n
 have hpa:=hok.pa
 have hpb:=hok.pb
 have hqa:=hok.qa
 have hqb:=hok.qb
 have htm:=Sh.tm_b hok hr
 have hrs: -(64*1073741824)≤r*s.st∧r*s.st≤64*1073741824:=by have h8:=htm;unfold Sh.tm at h8;have h9:=Sh.mul_b (x:=r) (y:=s.st) (m:=64) (n:=1073741824) om om;omega
 have hfq:=Sh.frc_hq hok hr
 refine zj<|zc<|zH rfl rfl (zba rfl rfl) (fun b1=> ?_)
 refine zH rfl rfl (zo zr54 rfl) (fun b2=> ?_)
 refine zk<|zg<|zj<|zc<|e_p (zf Tryz.underlying29 rfl sz3 rfl rfl)<|e_ru (zd 1 ty3 rfl rfl rfl)<|e_mv rfl<|e_p (zf Tryz.underlying29 rfl sz3 rfl rfl)<|e_ru (zd 1 ty3 rfl rfl rfl)<|e_p (zGa (z:=(r*s.st)) rfl rfl (w64 om))<|e_p (zJ (z:=(s.fi+(r*s.st))) rfl rfl (w64 om))<|e_p (zf Tryz.underlying29 rfl sz27 rfl rfl)<|e_p (zf Tryz.underlying27 rfl sz3 rfl rfl)<|e_ru (zd 1 ty3 rfl rfl rfl)<|e_p (zka (z:=((s.fi+(r*s.st)) - s.ta)) rfl rfl (w64 om))<|e_p (zf Tryz.underlying29 rfl sz27 rfl rfl)<|e_p (zf Tryz.underlying27 rfl sz3 rfl rfl)<|e_ru (zd 1 ty3 rfl rfl rfl)<|e_p (zf Tryz.underlying29 rfl sz27 rfl rfl)<|e_p (zf Tryz.underlying27 rfl sz3 rfl rfl)<|e_ru (zd 1 ty3 rfl rfl rfl)<|e_p (zka (z:=(s.tb - s.ta)) rfl rfl (w64 om))<|zE rfl rfl (.c rfl (.c rfl .n)) ce41 (zrd (z1:=((s.fi+(r*s.st)) - s.ta)) (z2:=(s.tb - s.ta)) (hz1:=Sh.ax) (hz2:=Sh.ax) (hy:=Sh.ax)) (.n) ?_
 rintro ⟨w33,w44⟩ -
 dsimp only [aq,nq,cq]
 refine e_mv rfl<|e_p (zy rfl rfl)<|e_p (zy rfl rfl)<|zH rfl rfl (zo zr44 rfl) (fun b5=> ?_)
 refine zl 0 rfl rfl rfl rfl rfl sz44 rfl (.t4 .nil) .z<|e_p (zh rfl)<|zk<|zg<|zj ?_
 have e6:s.fi+(r*s.st)=Sh.tm s r:=by rfl
 rw [e6]
 have e7:(Rat.divInt ((Sh.tm s r) - s.ta) (s.tb - s.ta):Rat)=Sh.frc s r:=by rfl
 rw [e7]
 refine zc<|e_p (zwa zr54 rfl Tryz.underlying54 sz44 .n .n)<|zH rfl rfl (zo zr54 rfl) (fun b8=> ?_)
 refine zl 0 rfl rfl rfl rfl rfl sz54 rfl (.t8 (.t4 .nil)) .z<|zk<|zg<|zj<|zT (OW:=[]) (O:=[boxA b8 54 (cw [wz,wz,wz,wz,wz,wz]),boxA b5 44 (cw [w33,w44]),boxA b2 54 (cw [wz,wz,wz,wz,wz,wz]),boxA b1 29 (cS s)]) 28 mixed (.then .ret) kr<|e_pv 0 rfl rfl (zf Tryz.underlying29 rfl sz27 rfl rfl)<|e_pv 1 rfl rfl (zf Tryz.underlying27 rfl sz23 rfl rfl)<|e_pv 2 rfl rfl (zf Tryz.underlying23 rfl sz3 rfl rfl)<|e_u 3 rfl rfl (zd 3 ty3 rfl rfl rfl)<|e_pv 4 rfl rfl (zf Tryz.underlying29 rfl sz27 rfl rfl)<|e_pv 5 rfl rfl (zf Tryz.underlying27 rfl sz23 rfl rfl)<|e_pv 6 rfl rfl (zf Tryz.underlying23 rfl sz3 rfl rfl)<|e_u 7 rfl rfl (zd 3 ty3 rfl rfl rfl)<|e_pv 8 rfl rfl (zf Tryz.underlying29 rfl sz27 rfl rfl)<|e_pv 9 rfl rfl (zf Tryz.underlying27 rfl sz23 rfl rfl)<|e_pv 10 rfl rfl (zf Tryz.underlying23 rfl sz3 rfl rfl)<|e_u 11 rfl rfl (zd 3 ty3 rfl rfl rfl)<|e_pv 12 rfl rfl (zwa zr123 rfl Tryz.underlying123 sz3 (.c rfl (.c rfl (.c rfl .n))) (.c rfl rfl rfl (.take .nil) (.c rfl rfl rfl (.skip (.take .nil)) (.c rfl rfl rfl (.s2 (.take .nil)) .n))))<|e_pv 13 rfl rfl (zf Tryz.underlying29 rfl sz27 rfl rfl)<|e_pv 14 rfl rfl (zf Tryz.underlying27 rfl sz23 rfl rfl)<|e_pv 15 rfl rfl (zf Tryz.underlying23 rfl sz3 rfl rfl)<|e_u 16 rfl rfl (zd 3 ty3 rfl rfl rfl)<|e_pv 17 rfl rfl (zf Tryz.underlying29 rfl sz27 rfl rfl)<|e_pv 18 rfl rfl (zf Tryz.underlying27 rfl sz23 rfl rfl)<|e_pv 19 rfl rfl (zf Tryz.underlying23 rfl sz3 rfl rfl)<|e_u 20 rfl rfl (zd 3 ty3 rfl rfl rfl)<|e_pv 21 rfl rfl (zf Tryz.underlying29 rfl sz27 rfl rfl)<|e_pv 22 rfl rfl (zf Tryz.underlying27 rfl sz23 rfl rfl)<|e_pv 23 rfl rfl (zf Tryz.underlying23 rfl sz3 rfl rfl)<|e_u 24 rfl rfl (zd 3 ty3 rfl rfl rfl)<|e_pv 25 rfl rfl (zwa zr123 rfl Tryz.underlying123 sz3 (.c rfl (.c rfl (.c rfl .n))) (.c rfl rfl rfl (.take .nil) (.c rfl rfl rfl (.skip (.take .nil)) (.c rfl rfl rfl (.s2 (.take .nil)) .n))))<|zgc (m':=[(59,.agg #[.int .i64 (s.xb),.int .i64 (s.yb),.int .i64 (s.zb)]),(46,.agg #[.int .i64 (s.xa),.int .i64 (s.ya),.int .i64 (s.za)]),(7,.pointer (some ⟨b8,0,none⟩)),(5,.pointer (some ⟨b5,0,none⟩)),(4,.pointer (some ⟨b2,0,none⟩))]) (R':=[qF true w33 w44 (Sh.frc s r)]) ((.of rfl):SubM _ _) (List.Perm.refl _) (List.Perm.refl _) ((.c (j:=0) rfl .n):SelR _ _ _)<|zga (X:=Nat×Nat) (k':=0) (L':=(lb 30 1073741823)) (fun (u26_1,u27_1)=>([(9,.pointer (some ⟨u27_1,0,none⟩)),(8,.pointer (some ⟨u26_1,0,none⟩)),(7,.pointer (some ⟨b8,0,none⟩)),(5,.pointer (some ⟨b5,0,none⟩)),(4,.pointer (some ⟨b2,0,none⟩))],[boxA u27_1 123 [.int .i64 (s.xb),.int .i64 (s.yb),.int .i64 (s.zb)],boxA u26_1 123 [.int .i64 (s.xa),.int .i64 (s.ya),.int .i64 (s.za)]],[boxA b8 54 (cw [wz,wz,wz,wz,wz,wz]),boxA b5 44 (cw [w33,w44]),boxA b2 54 (cw [wz,wz,wz,wz,wz,wz]),boxA b1 29 (cS s)],[qF true w33 w44 (Sh.frc s r)])) ?_ (fun hD0=> ?_)
 ·
  rintro ⟨u26_1,u27_1⟩
  dsimp only [cw,cS]
  refine zQ kr<|zg<|zj<|zj<|zc<|e_mv rfl<|zk<|zg<|zv<|zQa<|zY<|zj<|zc<|e_p (zV rfl rfl)<|zk<|zg<|zj<|zaa rfl rfl<|zx<|zg<|zj<|zv<|zj<|zc<|e_mv rfl<|e_p (zh rfl)<|zk<|zg<|zca (.c (i:=2) rfl (.c (i:=0) rfl (.c (i:=0) rfl (.c (i:=0) rfl (.c (i:=0) rfl .n)))))<|zT (OW:=[boxA b8 54 (cw [wz,wz,wz,wz,wz,wz])]) (O:=[boxA u27_1 123 [.int .i64 (s.xb),.int .i64 (s.yb),.int .i64 (s.zb)],boxA u26_1 123 [.int .i64 (s.xa),.int .i64 (s.ya),.int .i64 (s.za)],boxA b5 44 (cw [w33,w44]),boxA b2 54 (cw [wz,wz,wz,wz,wz,wz])]) 17 mixed (.block (.then (.then (.block (.then .ret))))) kr<|e_dm 0 rfl rfl rfl<|e_dm 1 rfl rfl rfl<|e_pv 2 rfl rfl (zi (i:=0) Tryz.underlying123 sz3 rfl rfl dd rfl)<|e_uw 3 rfl rfl (zd 2 ty3 rfl rfl rfl)<|e_uw 5 rfl rfl (ze 3 ty44 rfl rfl (.t4 .nil))<|e_dm 6 rfl rfl rfl<|e_pv 7 rfl rfl (zi (i:=0) Tryz.underlying123 sz3 rfl rfl dd rfl)<|e_uw 8 rfl rfl (zd 1 ty3 rfl rfl rfl)<|e_dm 9 rfl rfl rfl<|e_pv 10 rfl rfl (zi (i:=0) Tryz.underlying123 sz3 rfl rfl dd rfl)<|e_uw 11 rfl rfl (zd 2 ty3 rfl rfl rfl)<|e_pv 12 rfl rfl (zka (z:=(s.xb - s.xa)) rfl rfl (w64 om))<|e_one 4 (zm rfl rfl rfl rfl (.c rfl .n) ce22 (zXa (z:=s.xa) (hz:=Sh.ax)) (.n) ?_)
  rintro ⟨w39,w410⟩ -
  dsimp only [aq,nq,cq]
  refine e_one 13 (zm rfl rfl rfl rfl (.c rfl .n) ce22 (zXa (z:=(s.xb - s.xa)) (hz:=Sh.ax)) (.n) ?_)
  rintro ⟨w311,w412⟩ -
  dsimp only [aq,nq,cq]
  refine e_one 14 (zm rfl rfl rfl rfl (.c rfl (.c rfl .n)) ce54 (zdd (k1:=true) (u1:=w33) (v1:=w44) (q1:=Sh.frc s r) (k2:=true) (u2:=w311) (v2:=w412) (q2:=(((s.xb - s.xa):Int):Rat)) (hl:=Sh.ax)) (.c (j:=2) rfl (.c (j:=0) rfl .n)) ?_)
  rintro ⟨w313,w414⟩ -
  dsimp only [aq,nq,cq]
  refine e_one 15 (zm rfl rfl rfl rfl (.c rfl (.c rfl .n)) ce25 (zxc (k1:=true) (u1:=w39) (v1:=w410) (q1:=((s.xa:Int):Rat)) (k2:=true) (u2:=w313) (v2:=w414) (q2:=(Sh.frc s r)*(((s.xb - s.xa):Int):Rat)) (hl:=Sh.ax)) (.c (j:=2) rfl (.c (j:=0) rfl .n)) ?_)
  rintro ⟨w315,w416⟩ -
  dsimp only [aq,nq,cq]
  refine e_pv 16 rfl rfl (zi (i:=0) Tryz.underlying54 sz44 rfl rfl dd rfl)<|e_one 17 (zp kr rfl rfl rfl rfl rfl sz44 rfl (.t4 .nil) ?_)
  refine zQ kr<|zK<|zg<|zc<|e_p (zJ (z:=1) rfl rfl (w64 dd))<|e_mv rfl<|zk<|zfa<|zY<|zj<|zc<|e_p (zV rfl rfl)<|zk<|zg<|zj<|zaa rfl rfl<|zx<|zg<|zj<|zv<|zj<|zc<|e_mv rfl<|e_p (zh rfl)<|zk<|zg<|zT (OW:=[boxA b8 54 (cw [w315,w416,wz,wz,wz,wz])]) (O:=[boxA u27_1 123 [.int .i64 (s.xb),.int .i64 (s.yb),.int .i64 (s.zb)],boxA u26_1 123 [.int .i64 (s.xa),.int .i64 (s.ya),.int .i64 (s.za)],boxA b5 44 (cw [w33,w44]),boxA b2 54 (cw [wz,wz,wz,wz,wz,wz])]) 17 mixed (.block (.then (.then (.block (.then .ret))))) kr<|e_dm 0 rfl rfl rfl<|e_dm 1 rfl rfl rfl<|e_pv 2 rfl rfl (zi (i:=1) Tryz.underlying123 sz3 rfl rfl dd rfl)<|e_uw 3 rfl rfl (zd 2 ty3 rfl rfl rfl)<|e_uw 5 rfl rfl (ze 3 ty44 rfl rfl (.t4 .nil))<|e_dm 6 rfl rfl rfl<|e_pv 7 rfl rfl (zi (i:=1) Tryz.underlying123 sz3 rfl rfl dd rfl)<|e_uw 8 rfl rfl (zd 1 ty3 rfl rfl rfl)<|e_dm 9 rfl rfl rfl<|e_pv 10 rfl rfl (zi (i:=1) Tryz.underlying123 sz3 rfl rfl dd rfl)<|e_uw 11 rfl rfl (zd 2 ty3 rfl rfl rfl)<|e_pv 12 rfl rfl (zka (z:=(s.yb - s.ya)) rfl rfl (w64 om))<|e_one 4 (zm rfl rfl rfl rfl (.c rfl .n) ce22 (zXa (z:=s.ya) (hz:=Sh.ax)) (.n) ?_)
  rintro ⟨w317,w418⟩ -
  dsimp only [aq,nq,cq]
  refine e_one 13 (zm rfl rfl rfl rfl (.c rfl .n) ce22 (zXa (z:=(s.yb - s.ya)) (hz:=Sh.ax)) (.n) ?_)
  rintro ⟨w319,w420⟩ -
  dsimp only [aq,nq,cq]
  refine e_one 14 (zm rfl rfl rfl rfl (.c rfl (.c rfl .n)) ce54 (zdd (k1:=true) (u1:=w33) (v1:=w44) (q1:=Sh.frc s r) (k2:=true) (u2:=w319) (v2:=w420) (q2:=(((s.yb - s.ya):Int):Rat)) (hl:=Sh.ax)) (.c (j:=6) rfl (.c (j:=0) rfl .n)) ?_)
  rintro ⟨w321,w422⟩ -
  dsimp only [aq,nq,cq]
  refine e_one 15 (zm rfl rfl rfl rfl (.c rfl (.c rfl .n)) ce25 (zxc (k1:=true) (u1:=w317) (v1:=w418) (q1:=((s.ya:Int):Rat)) (k2:=true) (u2:=w321) (v2:=w422) (q2:=(Sh.frc s r)*(((s.yb - s.ya):Int):Rat)) (hl:=Sh.ax)) (.c (j:=2) rfl (.c (j:=0) rfl .n)) ?_)
  rintro ⟨w323,w424⟩ -
  dsimp only [aq,nq,cq]
  refine e_pv 16 rfl rfl (zi (i:=1) Tryz.underlying54 sz44 rfl rfl dd rfl)<|e_one 17 (zp kr rfl rfl rfl rfl rfl sz44 rfl (.s4 (.t4 .nil)) ?_)
  refine zQ kr<|zK<|zg<|zc<|e_p (zJ (z:=2) rfl rfl (w64 dd))<|e_mv rfl<|zk<|zfa<|zY<|zj<|zc<|e_p (zV rfl rfl)<|zk<|zg<|zj<|zaa rfl rfl<|zx<|zg<|zj<|zv<|zj<|zc<|e_mv rfl<|e_p (zh rfl)<|zk<|zg<|zT (OW:=[boxA b8 54 (cw [w315,w416,w323,w424,wz,wz])]) (O:=[boxA u27_1 123 [.int .i64 (s.xb),.int .i64 (s.yb),.int .i64 (s.zb)],boxA u26_1 123 [.int .i64 (s.xa),.int .i64 (s.ya),.int .i64 (s.za)],boxA b5 44 (cw [w33,w44]),boxA b2 54 (cw [wz,wz,wz,wz,wz,wz])]) 17 mixed (.block (.then (.then (.block (.then .ret))))) kr<|e_dm 0 rfl rfl rfl<|e_dm 1 rfl rfl rfl<|e_pv 2 rfl rfl (zi (i:=2) Tryz.underlying123 sz3 rfl rfl dd rfl)<|e_uw 3 rfl rfl (zd 2 ty3 rfl rfl rfl)<|e_uw 5 rfl rfl (ze 3 ty44 rfl rfl (.t4 .nil))<|e_dm 6 rfl rfl rfl<|e_pv 7 rfl rfl (zi (i:=2) Tryz.underlying123 sz3 rfl rfl dd rfl)<|e_uw 8 rfl rfl (zd 1 ty3 rfl rfl rfl)<|e_dm 9 rfl rfl rfl<|e_pv 10 rfl rfl (zi (i:=2) Tryz.underlying123 sz3 rfl rfl dd rfl)<|e_uw 11 rfl rfl (zd 2 ty3 rfl rfl rfl)<|e_pv 12 rfl rfl (zka (z:=(s.zb - s.za)) rfl rfl (w64 om))<|e_one 4 (zm rfl rfl rfl rfl (.c rfl .n) ce22 (zXa (z:=s.za) (hz:=Sh.ax)) (.n) ?_)
  rintro ⟨w325,w426⟩ -
  dsimp only [aq,nq,cq]
  refine e_one 13 (zm rfl rfl rfl rfl (.c rfl .n) ce22 (zXa (z:=(s.zb - s.za)) (hz:=Sh.ax)) (.n) ?_)
  rintro ⟨w327,w428⟩ -
  dsimp only [aq,nq,cq]
  refine e_one 14 (zm rfl rfl rfl rfl (.c rfl (.c rfl .n)) ce54 (zdd (k1:=true) (u1:=w33) (v1:=w44) (q1:=Sh.frc s r) (k2:=true) (u2:=w327) (v2:=w428) (q2:=(((s.zb - s.za):Int):Rat)) (hl:=Sh.ax)) (.c (j:=10) rfl (.c (j:=0) rfl .n)) ?_)
  rintro ⟨w329,w430⟩ -
  dsimp only [aq,nq,cq]
  refine e_one 15 (zm rfl rfl rfl rfl (.c rfl (.c rfl .n)) ce25 (zxc (k1:=true) (u1:=w325) (v1:=w426) (q1:=((s.za:Int):Rat)) (k2:=true) (u2:=w329) (v2:=w430) (q2:=(Sh.frc s r)*(((s.zb - s.za):Int):Rat)) (hl:=Sh.ax)) (.c (j:=2) rfl (.c (j:=0) rfl .n)) ?_)
  rintro ⟨w331,w432⟩ -
  dsimp only [aq,nq,cq]
  refine e_pv 16 rfl rfl (zi (i:=2) Tryz.underlying54 sz44 rfl rfl dd rfl)<|e_one 17 (zp kr rfl rfl rfl rfl rfl sz44 rfl (.s8 (.t4 .nil)) ?_)
  refine zQ kr<|zK<|zg<|zc<|e_p (zJ (z:=3) rfl rfl (w64 dd))<|e_mv rfl<|zk<|zfa<|zY<|zj<|zc<|e_p (zV rfl rfl)<|zk<|zg<|zj<|zua rfl rfl<|zpa<|zn<|zn<|zD<|zg<|zj<|zc<|e_ru (ze 0 ty54 rfl rfl (.t8 (.t4 .nil)))<|zl 4 rfl rfl rfl rfl rfl sz54 rfl (.t8 (.t4 .nil)) (.s (.s (.s (.s .z))))<|zk<|zg<|zO ?_
  exact zL Tryz.results51 (w315,w416,w323,w424,w331,w432) trivial (zr 4 ty54 rfl rfl (.t8 (.t4 .nil))) rfl (ho:=(.n:PickO _ _ _)) ((.of [8,4,0] rfl):SelR _ _ _)
 refine zga (X:=Nat×Nat) (k':=1) (L':=(lb 30 536870911)) (fun (u26_1,u27_1)=>([(9,.pointer (some ⟨u27_1,0,none⟩)),(8,.pointer (some ⟨u26_1,0,none⟩)),(59,.agg #[.int .i64 (s.xb),.int .i64 (s.yb),.int .i64 (s.zb)]),(7,.pointer (some ⟨b8,0,none⟩)),(5,.pointer (some ⟨b5,0,none⟩)),(4,.pointer (some ⟨b2,0,none⟩))],[boxA u26_1 123 [.int .i64 (s.xa),.int .i64 (s.ya),.int .i64 (s.za)],boxA u27_1 123 [.int .i64 0,.int .i64 0,.int .i64 0]],[boxA b8 54 (cw [wz,wz,wz,wz,wz,wz]),boxA b5 44 (cw [w33,w44]),boxA b2 54 (cw [wz,wz,wz,wz,wz,wz]),boxA b1 29 (cS s)],[qF true w33 w44 (Sh.frc s r)])) ?_ (fun hD1=> ?_)
 ·
  rintro ⟨u26_1,u27_1⟩
  dsimp only [cw,cS]
  refine zMa 29 kr ?_
  ·
   refine zAc (zla (i:=1) rfl)<|zp kr rfl rfl rfl rfl rfl sz123 rfl (.t2 (.take .nil)) ?_
   exact zN (hD0 (u26_1,u27_1)) kr ((.of rfl):SubM _ _) .rfl .rfl ((.c (j:=0) rfl .n):SelR _ _ _)
 refine zga (X:=Nat×Nat) (k':=2) (L':=(lb 30 268435455)) (fun (u26_1,u27_1)=>([(9,.pointer (some ⟨u27_1,0,none⟩)),(8,.pointer (some ⟨u26_1,0,none⟩)),(59,.agg #[.int .i64 (s.xb),.int .i64 (s.yb),.int .i64 (s.zb)]),(46,.agg #[.int .i64 (s.xa),.int .i64 (s.ya),.int .i64 (s.za)]),(7,.pointer (some ⟨b8,0,none⟩)),(5,.pointer (some ⟨b5,0,none⟩)),(4,.pointer (some ⟨b2,0,none⟩))],[boxA u27_1 123 [.int .i64 0,.int .i64 0,.int .i64 0],boxA u26_1 123 [.int .i64 0,.int .i64 0,.int .i64 0]],[boxA b8 54 (cw [wz,wz,wz,wz,wz,wz]),boxA b5 44 (cw [w33,w44]),boxA b2 54 (cw [wz,wz,wz,wz,wz,wz]),boxA b1 29 (cS s)],[qF true w33 w44 (Sh.frc s r)])) ?_ (fun hD2=> ?_)
 ·
  rintro ⟨u26_1,u27_1⟩
  dsimp only [cw,cS]
  refine zMa 28 kr ?_
  ·
   refine zAc (zla (i:=1) rfl)<|zp kr rfl rfl rfl rfl rfl sz123 rfl (.t2 (.take .nil)) ?_
   exact zN (hD1 (u26_1,u27_1)) kr ((.of rfl):SubM _ _) .rfl .rfl ((.c (j:=0) rfl .n):SelR _ _ _)
 refine zga (X:=Nat) (k':=3) (L':=(lb 30 134217727)) (fun u26_1=>([(8,.pointer (some ⟨u26_1,0,none⟩)),(59,.agg #[.int .i64 (s.xb),.int .i64 (s.yb),.int .i64 (s.zb)]),(46,.agg #[.int .i64 (s.xa),.int .i64 (s.ya),.int .i64 (s.za)]),(7,.pointer (some ⟨b8,0,none⟩)),(5,.pointer (some ⟨b5,0,none⟩)),(4,.pointer (some ⟨b2,0,none⟩))],[boxA u26_1 123 [.int .i64 0,.int .i64 0,.int .i64 0]],[boxA b8 54 (cw [wz,wz,wz,wz,wz,wz]),boxA b5 44 (cw [w33,w44]),boxA b2 54 (cw [wz,wz,wz,wz,wz,wz]),boxA b1 29 (cS s)],[qF true w33 w44 (Sh.frc s r)])) ?_ (fun hD3=> ?_)
 ·
  rintro u26_1
  dsimp only [cw,cS]
  refine zMa 27 kr ?_
  ·
   refine zva rfl rfl rfl rfl (zo zr123 rfl) (fun u27_1 _=> ?_)
   exact zN (hD2 (u26_1,u27_1)) kr ((.of rfl):SubM _ _) .rfl .rfl ((.c (j:=0) rfl .n):SelR _ _ _)
 refine zga (X:=Nat) (k':=3) (L':=(lb 30 201326591)) (fun u27_1=>([(9,.pointer (some ⟨u27_1,0,none⟩)),(59,.agg #[.int .i64 (s.xb),.int .i64 (s.yb),.int .i64 (s.zb)]),(46,.agg #[.int .i64 (s.xa),.int .i64 (s.ya),.int .i64 (s.za)]),(7,.pointer (some ⟨b8,0,none⟩)),(5,.pointer (some ⟨b5,0,none⟩)),(4,.pointer (some ⟨b2,0,none⟩))],[boxA u27_1 123 [.int .i64 0,.int .i64 0,.int .i64 0]],[boxA b8 54 (cw [wz,wz,wz,wz,wz,wz]),boxA b5 44 (cw [w33,w44]),boxA b2 54 (cw [wz,wz,wz,wz,wz,wz]),boxA b1 29 (cS s)],[qF true w33 w44 (Sh.frc s r)])) ?_ (fun hD4=> ?_)
 ·
  rintro u27_1
  dsimp only [cw,cS]
  refine zMa 26 kr ?_
  ·
   refine zva rfl rfl rfl rfl (zo zr123 rfl) (fun u26_1 _=> ?_)
   exact zN (hD2 (u26_1,u27_1)) kr ((.of rfl):SubM _ _) (zhc 1 rfl (zhc 0 rfl .nil)) .rfl ((.c (j:=0) rfl .n):SelR _ _ _)
 refine zrb 26 27 kr ?_ ?_
 ·
  refine zva rfl rfl rfl rfl (zo zr123 rfl) (fun u26_1 _=> ?_)
  exact zN (hD3 u26_1) kr ((.of rfl):SubM _ _) .rfl .rfl ((.c (j:=0) rfl .n):SelR _ _ _)
 ·
  refine zva rfl rfl rfl rfl (zo zr123 rfl) (fun u27_1 _=> ?_)
  exact zN (hD4 u27_1) kr ((.of rfl):SubM _ _) .rfl .rfl ((.c (j:=0) rfl .n):SelR _ _ _)
end Go.Proofs.YtjeahiahjgifgaaGreatDoor.Sp
namespace Go.Proofs.YtjeahiahjgifgaaGreatDoor.Sp
open Go
set_option linter.unusedVariables false
set_option maxRecDepth 100000
set_option maxHeartbeats 8000000
theorem zyc {u1:Wd} {v1:Wd} {q1:Rat} {u2:Wd} {v2:Wd} {q2:Rat} {u3:Wd} {v3:Wd} {q3:Rat} {u4:Wd} {v4:Wd} {q4:Rat} (hl1:Big.hq q1+Big.hq q3+1≤1048576) (hl2:Big.hq q2+Big.hq q4+1≤1048576):Con Tryz.prog 21 [.agg #[u1.b,u1.l,v1.b,v1.l,u2.b,u2.l,v2.b,v2.l],.agg #[u3.b,u3.l,v3.b,v3.l,u4.b,u4.l,v4.b,v4.l]] [] [qF true u1 v1 q1,qF true u2 v2 q2,qF true u3 v3 q3,qF true u4 v4 q4] (Y:=Unit) (fun y=>True) (fun y=> .bool (decide (q1=q3∧q2=q4))) (fun y=>[]) (fun y=>[]):=by
 refine zw Tryz.func21 rfl rfl rfl (fun c=> ?_)
 show RunC _ _ _ _ _ [(0,.agg #[u1.b,u1.l,v1.b,v1.l,u2.b,u2.l,v2.b,v2.l]),(1,.agg #[u3.b,u3.l,v3.b,v3.l,u4.b,u4.l,v4.b,v4.l])] [] [qF true u1 v1 q1,qF true u2 v2 q2,qF true u3 v3 q3,qF true u4 v4 q4]
 refine zj<|zc<|zH rfl rfl (zba rfl rfl) (fun b1=> ?_)
 refine zH rfl rfl (zba rfl rfl) (fun b2=> ?_)
 refine e_p (zh rfl)<|zk<|zg<|zDa (X:=Unit) (fun x=>True) (fun x=>[(4,.bool (decide ((q1=q3)∧(q2=q4))))]) (fun x=>[boxA b2 46 (cw [u3,v3,u4,v4]),boxA b1 46 (cw [u1,v1,u2,v2])]) (fun x=>[qF true u1 v1 q1,qF true u2 v2 q2,qF true u3 v3 q3,qF true u4 v4 q4]) ?_ ?_
 ·
  refine zc<|e_p (zf Tryz.underlying46 rfl sz44 rfl rfl)<|e_ru (ze 1 ty44 rfl rfl (.t4 .nil))<|e_p (zf Tryz.underlying46 rfl sz44 rfl rfl)<|e_ru (ze 0 ty44 rfl rfl (.t4 .nil))<|zR rfl rfl (.c rfl (.c rfl .n)) ce27 (zEc (u1:=u1) (v1:=v1) (q1:=q1) (u2:=u3) (v2:=v3) (q2:=q3) (hl:=ass)) (.c (j:=0) rfl (.c (j:=2) rfl .n))<|zia rfl rfl (zma rfl) (fun h3=> ?_) (fun h3=> ?_)
  ·
   refine e_p (zf Tryz.underlying46 rfl sz44 rfl rfl)<|e_ru (ze 1 ty44 rfl rfl (.s4 (.t4 .nil)))<|e_p (zf Tryz.underlying46 rfl sz44 rfl rfl)<|e_ru (ze 0 ty44 rfl rfl (.s4 (.t4 .nil)))<|zR rfl rfl (.c rfl (.c rfl .n)) ce27 (zEc (u1:=u2) (v1:=v2) (q1:=q2) (u2:=u4) (v2:=v4) (q2:=q4) (hl:=ass)) (.c (j:=1) rfl (.c (j:=3) rfl .n))<|e_p (zI rfl rfl)<|e_p (zh rfl)<|zk ?_
   exact zha () (show True from by first|trivial|omega|simp_all) ((.e rfl (congrArg Value.bool cbu) .n):SubM _ _) (ho:=((.of [0,0] rfl):PickO _ _ _)) ((.of [0,1,2,3] rfl):SelR _ _ _)
  ·
   refine e_no<|e_no<|e_no<|e_no<|e_no<|e_p (zI rfl rfl)<|e_p (zh rfl)<|zk ?_
   exact zha () (show True from by first|trivial|omega|simp_all) ((.e rfl (congrArg Value.bool cbu) .n):SubM _ _) (ho:=((.of [0,0] rfl):PickO _ _ _)) ((.of [0,1,2,3] rfl):SelR _ _ _)
 ·
  rintro ⟨⟩ -
  try dsimp only [cw]
  refine zO ?_
  exact zL Tryz.results21 () trivial (zB rfl) rfl (ho:=(.n:PickO _ _ _)) (.n:SelR _ _ _)
theorem zAb:Con Tryz.prog 40 [] [] [] (Y:=Unit) (fun y=>True) (fun y=> .agg #[.int .i64 0,.int .i64 10,.int .i64 0,.int .i64 0,.int .i64 0,.int .i64 1000,.int .i64 0,.int .i64 1,.int .i64 0,.int .i64 0,.int .i64 100,.int .i64 100,.int .i64 0,.int .i64 1000,.int .i64 0,.int .i64 1,.int .i64 0,.int .i64 0]) (fun y=>[]) (fun y=>[]):=by
 refine zw Tryz.func40 rfl rfl rfl (fun c=> ?_)
 show RunC _ _ _ _ _ [] [] []
 refine zj<|zc<|zH rfl rfl (zo zr29 rfl) (fun b1=> ?_)
 refine zk<|zg<|zj<|zc<|e_p (zu zr25 rfl Tryz.underlying25 (.c sz3 (.c sz3 (.c sz3 (.c sz3 .n)))) (.c rfl .n) (.c rfl rfl rfl (.skip (.take .nil)) .n))<|zH rfl rfl (zo zr25 rfl) (fun b2=> ?_)
 refine zl 0 rfl rfl rfl rfl rfl sz25 rfl (.t4 .nil) .z<|zk<|zg<|zj<|zc<|e_p (zu zr23 rfl Tryz.underlying23 (.c sz3 (.c sz3 (.c sz3 .n))) (.c rfl .n) (.c rfl rfl rfl (.s2 (.take .nil)) .n))<|e_ru (ze 0 ty25 rfl rfl (.t4 .nil))<|e_p (zu zr27 rfl Tryz.underlying27 (.c sz3 (.c sz23 (.c sz25 .n))) (.c rfl (.c rfl .n)) (.c rfl rfl rfl (.skip (.t2 (.take .nil))) (.c rfl rfl rfl (.s4 (.t4 .nil)) .n)))<|e_p (zu zr23 rfl Tryz.underlying23 (.c sz3 (.c sz3 (.c sz3 .n))) (.c rfl (.c rfl .n)) (.c rfl rfl rfl (.take .nil) (.c rfl rfl rfl (.s2 (.take .nil)) .n)))<|e_ru (ze 0 ty25 rfl rfl (.t4 .nil))<|e_p (zu zr27 rfl Tryz.underlying27 (.c sz3 (.c sz23 (.c sz25 .n))) (.c rfl (.c rfl (.c rfl .n))) (.c rfl rfl rfl (.take .nil) (.c rfl rfl rfl (.skip (.t2 (.take .nil))) (.c rfl rfl rfl (.s4 (.t4 .nil)) .n))))<|e_p (zu zr29 rfl Tryz.underlying29 (.c sz3 (.c sz3 (.c sz27 (.c sz27 .n)))) (.c rfl (.c rfl (.c rfl .n))) (.c rfl rfl rfl (.skip (.take .nil)) (.c rfl rfl rfl (.s2 (.t8 .nil)) (.c rfl rfl rfl (.s8 (.s2 (.t8 .nil))) .n))))<|zl 1 rfl rfl rfl rfl rfl sz29 rfl (.t8 (.t8 (.t2 .nil))) (.s .z)<|zk<|zg<|zO ?_
 exact zL Tryz.results40 () trivial (zr 1 ty29 rfl rfl (.t8 (.t8 (.t2 .nil)))) rfl (ho:=(.n:PickO _ _ _)) (.n:SelR _ _ _)
end Go.Proofs.YtjeahiahjgifgaaGreatDoor.Sp
namespace Go.Proofs.YtjeahiahjgifgaaGreatDoor.Sp
open Go
set_option linter.unusedVariables false
set_option maxRecDepth 100000
set_option maxHeartbeats 8000000
theorem zjf:Con Tryz.prog 11 [] [] [sgF] (Y:=Unit) (fun y=>True) (fun y=> .bool true) (fun y=>[]) (fun y=>[]):=by
 refine zw Tryz.func11 rfl rfl rfl (fun c=> ?_)
 show RunC _ _ _ _ _ [] [] [sgF]
 refine zj<|zc<|e_p (zh rfl)<|zk<|zg<|zj<|zc<|e_p (zu zr37 rfl Tryz.underlying37 (.c sz3 (.c sz35 .n)) (.c rfl .n) (.c rfl rfl rfl (.take .nil) .n))<|zH rfl rfl (zo zr37 rfl) (fun b1=> ?_)
 refine zl 0 rfl rfl rfl rfl rfl sz37 rfl (.t2 (.take .nil)) .z<|zk<|zg<|zj<|zT (OW:=[]) (O:=[boxA b1 37 [.int .i64 640,.int .i64 0,.int .i64 0]]) 8 mixed (.then .ret) kr<|e_u 1 rfl rfl (ze 0 ty37 rfl rfl (.t2 (.take .nil)))<|e_pv 2 rfl rfl (zu zr35 rfl Tryz.underlying35 (.c sz3 (.c sz3 .n)) (.c rfl (.c rfl .n)) (.c rfl rfl rfl (.take .nil) (.c rfl rfl rfl (.skip (.take .nil)) .n)))<|zgc (m':=[(12,.agg #[.int .i64 64,.int .i64 128]),(11,.agg #[.int .i64 640,.int .i64 0,.int .i64 0]),(1,.pointer (some ⟨b1,0,none⟩)),(0,.bool false)]) (R':=[sgF]) ((.of rfl):SubM _ _) (List.Perm.refl _) (List.Perm.refl _) ((.c (j:=0) rfl .n):SelR _ _ _)<|zga (X:=Wd×Wd×Wd×Wd×Nat) (k':=0) (L':=(lb 10 1023)) (fun (u3_1,u3_2,u3_3,u3_4,u7_1)=>([(3,.int .i64 (Sh.Gc Sh.exS Sh.exC 64 128 0)),(2,.pointer (some ⟨u7_1,0,none⟩)),(1,.pointer (some ⟨b1,0,none⟩)),(0,.bool false)],[boxA u7_1 46 (cw [u3_1,u3_2,u3_3,u3_4])],[boxA b1 37 [.int .i64 640,.int .i64 0,.int .i64 0]],[qF (decide (Sh.Gc Sh.exS Sh.exC 64 128 0=0)) u3_1 u3_2 (Sh.Gx Sh.exS Sh.exC 64 128 0),qF (decide (Sh.Gc Sh.exS Sh.exC 64 128 0=0)) u3_3 u3_4 (Sh.Gy Sh.exS Sh.exC 64 128 0),sgF])) ?_ (fun hD0=> ?_)
 ·
  rintro ⟨u3_1,u3_2,u3_3,u3_4,u7_1⟩
  dsimp only [cw,cS]
  refine zQ kr<|zg<|zj ?_
  have e2:(decide (Sh.Gc Sh.exS Sh.exC 64 128 0=0))=true:=by exact decide_eq_true Sh.ex_gc
  rw [e2]
  have e3:(Sh.Gx Sh.exS Sh.exC 64 128 0:Rat)=((120:Int):Rat):=by exact Sh.ex_gx
  rw [e3]
  have e4:(Sh.Gy Sh.exS Sh.exC 64 128 0:Rat)=((-200:Int):Rat):=by exact Sh.ex_gy
  rw [e4]
  have e5:(Sh.Gc Sh.exS Sh.exC 64 128 0:Int)=0:=by exact Sh.ex_gc
  rw [e5]
  refine zT (OW:=[]) (O:=[boxA u7_1 46 (cw [u3_1,u3_2,u3_3,u3_4]),boxA b1 37 [.int .i64 640,.int .i64 0,.int .i64 0]]) 8 mixed (.then .ret) kr<|e_u 1 rfl rfl (ze 1 ty37 rfl rfl (.t2 (.take .nil)))<|e_pv 2 rfl rfl (zu zr35 rfl Tryz.underlying35 (.c sz3 (.c sz3 .n)) (.c rfl (.c rfl .n)) (.c rfl rfl rfl (.take .nil) (.c rfl rfl rfl (.skip (.take .nil)) .n)))<|zgc (m':=[(19,.agg #[.int .i64 64,.int .i64 128]),(18,.agg #[.int .i64 640,.int .i64 0,.int .i64 0]),(3,.int .i64 0),(2,.pointer (some ⟨u7_1,0,none⟩)),(0,.bool false)]) (R':=[qF true u3_1 u3_2 ((120:Int):Rat),qF true u3_3 u3_4 ((-200:Int):Rat),sgF]) ((.of rfl):SubM _ _) (List.Perm.refl _) (List.Perm.refl _) ((.of [0,1,2] rfl):SelR _ _ _)<|zga (X:=Wd×Wd×Wd×Wd×Nat) (k':=0) (L':=(lb 10 1023)) (fun (u3_1r2,u3_2r2,u3_3r2,u3_4r2,u7_1r2)=>([(5,.int .i64 (Sh.Cc Sh.exS Sh.exC 64 128 0 0)),(4,.pointer (some ⟨u7_1r2,0,none⟩)),(3,.int .i64 0),(2,.pointer (some ⟨u7_1,0,none⟩)),(0,.bool false)],[boxA u7_1r2 46 (cw [u3_1r2,u3_2r2,u3_3r2,u3_4r2])],[boxA u7_1 46 (cw [u3_1,u3_2,u3_3,u3_4]),boxA b1 37 [.int .i64 640,.int .i64 0,.int .i64 0]],[qF (decide (Sh.Cc Sh.exS Sh.exC 64 128 0 0=0)) u3_1r2 u3_2r2 (Sh.Cx Sh.exS Sh.exC 64 128 0 0),qF (decide (Sh.Cc Sh.exS Sh.exC 64 128 0 0=0)) u3_3r2 u3_4r2 (Sh.Cy Sh.exS Sh.exC 64 128 0 0),qF true u3_1 u3_2 ((120:Int):Rat),qF true u3_3 u3_4 ((-200:Int):Rat),sgF])) ?_ (fun hD0=> ?_)
  ·
   rintro ⟨u3_1r2,u3_2r2,u3_3r2,u3_4r2,u7_1r2⟩
   dsimp only [cw,cS]
   refine zQ kr<|zg<|zj ?_
   have e6:(decide (Sh.Cc Sh.exS Sh.exC 64 128 0 0=0))=true:=by exact decide_eq_true Sh.ex_cc
   rw [e6]
   have e7:(Sh.Cx Sh.exS Sh.exC 64 128 0 0:Rat)=Rat.divInt 384 5:=by exact Sh.ex_cx
   rw [e7]
   have e8:(Sh.Cy Sh.exS Sh.exC 64 128 0 0:Rat)=((128:Int):Rat):=by exact Sh.ex_cy
   rw [e8]
   have e9:(Sh.Cc Sh.exS Sh.exC 64 128 0 0:Int)=0:=by exact Sh.ex_cc
   rw [e9]
   refine zc<|zE rfl rfl (.c rfl (.c rfl .n)) ce41 (zrd (z1:=384) (z2:=5) (hz1:=Sh.ay) (hz2:=Sh.ay) (hy:=Sh.ay)) (.n) ?_
   rintro ⟨w310,w411⟩ -
   dsimp only [aq,nq,cq]
   refine e_mv rfl<|e_p (zy rfl rfl)<|e_p (zy rfl rfl)<|zH rfl rfl (zo zr44 rfl) (fun b12=> ?_)
   refine zl 0 rfl rfl rfl rfl rfl sz44 rfl (.t4 .nil) .z<|e_p (zh rfl)<|zk<|zg<|zj<|zT (OW:=[]) (O:=[boxA b12 44 (cw [w310,w411]),boxA u7_1r2 46 (cw [u3_1r2,u3_2r2,u3_3r2,u3_4r2]),boxA u7_1 46 (cw [u3_1,u3_2,u3_3,u3_4]),boxA b1 37 [.int .i64 640,.int .i64 0,.int .i64 0]]) 100000 mixed (.then .ret) kr<|e_dm 0 rfl rfl rfl<|e_pv 1 rfl rfl (zIa rfl rfl)<|e_dm 2 rfl rfl rfl<|e_dm 3 rfl rfl rfl<|e_pv 4 rfl rfl (zIa rfl rfl)<|e_pv 5 rfl rfl (zI rfl rfl)<|e_dm 6 rfl rfl rfl<|e_u 7 rfl rfl (ze 2 ty46 rfl rfl (.t8 .nil))<|e_one 8 (zm rfl rfl rfl rfl (.c rfl .n) ce22 (zXa (z:=120) (hz:=Sh.ay)) (.n) ?_)
   rintro ⟨w313,w414⟩ -
   dsimp only [aq,nq,cq]
   refine e_one 9 (zm rfl rfl rfl rfl (.c rfl .n) ce22 (zXa (z:=(-200)) (hz:=Sh.ay)) (.n) ?_)
   rintro ⟨w315,w416⟩ -
   dsimp only [aq,nq,cq]
   refine e_pv 10 rfl rfl (zu zr46 rfl Tryz.underlying46 (.c sz44 (.c sz44 .n)) (.c rfl (.c rfl .n)) (.c rfl rfl rfl (.t4 .nil) (.c rfl rfl rfl (.s4 (.t4 .nil)) .n)))<|e_one 11 (zJa rfl rfl rfl rfl (.c rfl (.c rfl .n)) ce21 (zyc (u1:=u3_1) (v1:=u3_2) (q1:=((120:Int):Rat)) (u2:=u3_3) (v2:=u3_4) (q2:=((-200:Int):Rat)) (u3:=w313) (v3:=w414) (q3:=((120:Int):Rat)) (u4:=w315) (v4:=w416) (q4:=(((-200):Int):Rat)) (hl1:=Sh.ay) (hl2:=Sh.ay)) (.c (j:=5) rfl (.c (j:=6) rfl (.c (j:=1) rfl (.c (j:=0) rfl .n)))) ?_)
   rw [show (decide (((120:Int):Rat)=((120:Int):Rat)∧((-200:Int):Rat)=(((-200):Int):Rat)))=true from by exact decide_eq_true ⟨rfl,rfl⟩]
   refine e_pv 12 rfl rfl (zI rfl rfl)<|e_dm 13 rfl rfl rfl<|e_u 14 rfl rfl (ze 1 ty46 rfl rfl (.t8 .nil))<|e_u 15 rfl rfl (ze 0 ty44 rfl rfl (.t4 .nil))<|e_one 16 (zm rfl rfl rfl rfl (.c rfl .n) ce22 (zXa (z:=128) (hz:=Sh.ay)) (.n) ?_)
   rintro ⟨w317,w418⟩ -
   dsimp only [aq,nq,cq]
   refine e_pv 17 rfl rfl (zu zr46 rfl Tryz.underlying46 (.c sz44 (.c sz44 .n)) (.c rfl (.c rfl .n)) (.c rfl rfl rfl (.t4 .nil) (.c rfl rfl rfl (.s4 (.t4 .nil)) .n)))<|e_one 18 (zJa rfl rfl rfl rfl (.c rfl (.c rfl .n)) ce21 (zyc (u1:=u3_1r2) (v1:=u3_2r2) (q1:=(Rat.divInt 384 5)) (u2:=u3_3r2) (v2:=u3_4r2) (q2:=((128:Int):Rat)) (u3:=w310) (v3:=w411) (q3:=Rat.divInt 384 5) (u4:=w317) (v4:=w418) (q4:=((128:Int):Rat)) (hl1:=Sh.ay) (hl2:=Sh.ay)) (.c (j:=4) rfl (.c (j:=5) rfl (.c (j:=3) rfl (.c (j:=0) rfl .n)))) ?_)
   rw [show (decide ((Rat.divInt 384 5)=(Rat.divInt 384 5)∧((128:Int):Rat)=((128:Int):Rat)))=true from by exact decide_eq_true ⟨rfl,rfl⟩]
   refine e_pv 19 rfl rfl (zI rfl rfl)<|e_dm 20 rfl rfl rfl<|e_one 21 (zJa rfl rfl rfl rfl (.n) ce40 (zAb) (.n) ?_)
   refine e_one 22 (zJa rfl rfl rfl rfl (.c rfl (.c rfl .n)) ce12 (zRb (s:=Sh.exS) (n:=64) (hfi:=Sh.ay) (hst:=Sh.ay) (hta:=Sh.ay) (htb:=Sh.ay) (hxa:=Sh.ay) (hya:=Sh.ay) (hza:=Sh.ay) (hqa:=Sh.ay) (hqb:=Sh.ay) (hqc:=Sh.ay) (hqd:=Sh.ay) (hxb:=Sh.ay) (hyb:=Sh.ay) (hzb:=Sh.ay) (hra:=Sh.ay) (hrb:=Sh.ay) (hrc:=Sh.ay) (hrd:=Sh.ay)) (.n) ?_)
   refine e_pv 23 rfl rfl (zIa rfl rfl) ?_
   rw [show (decide (Sh.chk Sh.exS 64=0))=true from by exact decide_eq_true Sh.ex_chk]
   refine e_pv 24 rfl rfl (zI rfl rfl)<|e_pv 25 rfl rfl (zh rfl)<|zQ kr<|zg<|zO ?_
   exact zL Tryz.results11 () trivial (zB rfl) rfl (ho:=(.n:PickO _ _ _)) (.n:SelR _ _ _)
  refine zga (X:=Wd×Wd×Wd×Wd×Nat) (k':=2) (L':=(lb 10 255)) (fun (u3_1r2,u3_2r2,u3_3r2,u3_4r2,u7_1r2)=>([(4,.pointer (some ⟨u7_1r2,0,none⟩)),(22,.int .i64 (Sh.Cc Sh.exS Sh.exC 64 128 0 0)),(21,.agg (cw [u3_1r2,u3_2r2,u3_3r2,u3_4r2]).toArray),(3,.int .i64 0),(2,.pointer (some ⟨u7_1,0,none⟩)),(0,.bool false)],[boxA u7_1r2 46 (cw [wz,wz,wz,wz])],[boxA u7_1 46 (cw [u3_1,u3_2,u3_3,u3_4]),boxA b1 37 [.int .i64 640,.int .i64 0,.int .i64 0]],[qF (decide (Sh.Cc Sh.exS Sh.exC 64 128 0 0=0)) u3_1r2 u3_2r2 (Sh.Cx Sh.exS Sh.exC 64 128 0 0),qF (decide (Sh.Cc Sh.exS Sh.exC 64 128 0 0=0)) u3_3r2 u3_4r2 (Sh.Cy Sh.exS Sh.exC 64 128 0 0),qF true u3_1 u3_2 ((120:Int):Rat),qF true u3_3 u3_4 ((-200:Int):Rat),sgF])) ?_ (fun hD1=> ?_)
  ·
   rintro ⟨u3_1r2,u3_2r2,u3_3r2,u3_4r2,u7_1r2⟩
   dsimp only [cw,cS]
   refine zMa 8 kr ?_
   ·
    refine zp kr rfl rfl rfl rfl rfl sz46 rfl (.t8 .nil)<|e_pv 9 rfl rfl (zh rfl) ?_
    exact zN (hD0 (u3_1r2,u3_2r2,u3_3r2,u3_4r2,u7_1r2)) kr ((.of rfl):SubM _ _) .rfl .rfl ((.of [0,1,2,3,4] rfl):SelR _ _ _)
  refine zga (X:=Wd×Wd×Wd×Wd) (k':=3) (L':=(lb 10 127)) (fun (u3_1r2,u3_2r2,u3_3r2,u3_4r2)=>([(22,.int .i64 (Sh.Cc Sh.exS Sh.exC 64 128 0 0)),(21,.agg (cw [u3_1r2,u3_2r2,u3_3r2,u3_4r2]).toArray),(3,.int .i64 0),(2,.pointer (some ⟨u7_1,0,none⟩)),(0,.bool false)],[],[boxA u7_1 46 (cw [u3_1,u3_2,u3_3,u3_4]),boxA b1 37 [.int .i64 640,.int .i64 0,.int .i64 0]],[qF (decide (Sh.Cc Sh.exS Sh.exC 64 128 0 0=0)) u3_1r2 u3_2r2 (Sh.Cx Sh.exS Sh.exC 64 128 0 0),qF (decide (Sh.Cc Sh.exS Sh.exC 64 128 0 0=0)) u3_3r2 u3_4r2 (Sh.Cy Sh.exS Sh.exC 64 128 0 0),qF true u3_1 u3_2 ((120:Int):Rat),qF true u3_3 u3_4 ((-200:Int):Rat),sgF])) ?_ (fun hD2=> ?_)
  ·
   rintro ⟨u3_1r2,u3_2r2,u3_3r2,u3_4r2⟩
   dsimp only [cw,cS]
   refine zMa 7 kr ?_
   ·
    refine zva rfl rfl rfl rfl (zo zr46 rfl) (fun u7_1r2 _=> ?_)
    exact zN (hD1 (u3_1r2,u3_2r2,u3_3r2,u3_4r2,u7_1r2)) kr ((.of rfl):SubM _ _) .rfl .rfl ((.of [0,1,2,3,4] rfl):SelR _ _ _)
  refine zga (X:=Nat) (k':=6) (L':=(lb 10 135)) (fun u7_1r2=>([(4,.pointer (some ⟨u7_1r2,0,none⟩)),(17,.agg #[.int .i64 0,.int .i64 10,.int .i64 0,.int .i64 0,.int .i64 0,.int .i64 1000,.int .i64 0,.int .i64 1,.int .i64 0,.int .i64 0,.int .i64 100,.int .i64 100,.int .i64 0,.int .i64 1000,.int .i64 0,.int .i64 1,.int .i64 0,.int .i64 0]),(19,.agg #[.int .i64 64,.int .i64 128]),(18,.agg #[.int .i64 640,.int .i64 0,.int .i64 0]),(3,.int .i64 0),(2,.pointer (some ⟨u7_1,0,none⟩)),(0,.bool false)],[boxA u7_1r2 46 (cw [wz,wz,wz,wz])],[boxA u7_1 46 (cw [u3_1,u3_2,u3_3,u3_4]),boxA b1 37 [.int .i64 640,.int .i64 0,.int .i64 0]],[qF true u3_1 u3_2 ((120:Int):Rat),qF true u3_3 u3_4 ((-200:Int):Rat),sgF])) ?_ (fun hD3=> ?_)
  ·
   rintro u7_1r2
   dsimp only [cw,cS]
   refine zMa 3 kr ?_
   ·
    refine zm rfl rfl rfl rfl (.c rfl (.c rfl (.c rfl (.c rfl (.c rfl .n))))) ce14 (zed (s:=Sh.exS) (cm:=Sh.exC) (u:=64) (v:=128) (r:=0) (h:=0) (hfi:=Sh.ay) (hst:=Sh.ay) (hta:=Sh.ay) (htb:=Sh.ay) (hxa:=Sh.ay) (hya:=Sh.ay) (hza:=Sh.ay) (hqa:=Sh.ay) (hqb:=Sh.ay) (hqc:=Sh.ay) (hqd:=Sh.ay) (hxb:=Sh.ay) (hyb:=Sh.ay) (hzb:=Sh.ay) (hra:=Sh.ay) (hrb:=Sh.ay) (hrc:=Sh.ay) (hrd:=Sh.ay) (h64fo:=Sh.ay) (h64cx:=Sh.ay) (h64cy:=Sh.ay) (h64u:=Sh.ay) (h64v:=Sh.ay) (h64r:=Sh.ay) (h64h:=Sh.ay)) (.c (j:=2) rfl .n) ?_
    rintro ⟨u3_1r2,u3_2r2,u3_3r2,u3_4r2⟩ hph2
    dsimp only [aq,nq,cq]
    replace hph2:Sh.Cc Sh.exS Sh.exC 64 128 0 0≠0→u3_1r2=wz∧u3_2r2=wz∧u3_3r2=wz∧u3_4r2=wz:=hph2
    refine e_dm 4 rfl rfl rfl<|e_pv 5 rfl rfl (zy rfl rfl)<|e_pv 6 rfl rfl (zy rfl rfl) ?_
    exact zN (hD1 (u3_1r2,u3_2r2,u3_3r2,u3_4r2,u7_1r2)) kr ((.of rfl):SubM _ _) .rfl .rfl ((.of [0,1,2,3,4] rfl):SelR _ _ _)
  refine zga (X:=Unit) (k':=7) (L':=(lb 10 7)) (fun _=>([(17,.agg #[.int .i64 0,.int .i64 10,.int .i64 0,.int .i64 0,.int .i64 0,.int .i64 1000,.int .i64 0,.int .i64 1,.int .i64 0,.int .i64 0,.int .i64 100,.int .i64 100,.int .i64 0,.int .i64 1000,.int .i64 0,.int .i64 1,.int .i64 0,.int .i64 0]),(19,.agg #[.int .i64 64,.int .i64 128]),(18,.agg #[.int .i64 640,.int .i64 0,.int .i64 0]),(3,.int .i64 0),(2,.pointer (some ⟨u7_1,0,none⟩)),(0,.bool false)],[],[boxA u7_1 46 (cw [u3_1,u3_2,u3_3,u3_4]),boxA b1 37 [.int .i64 640,.int .i64 0,.int .i64 0]],[qF true u3_1 u3_2 ((120:Int):Rat),qF true u3_3 u3_4 ((-200:Int):Rat),sgF])) ?_ (fun hD4=> ?_)
  ·
   rintro ⟨⟩
   dsimp only [cw,cS]
   refine zrb 3 7 kr ?_ ?_
   ·
    refine zm rfl rfl rfl rfl (.c rfl (.c rfl (.c rfl (.c rfl (.c rfl .n))))) ce14 (zed (s:=Sh.exS) (cm:=Sh.exC) (u:=64) (v:=128) (r:=0) (h:=0) (hfi:=Sh.ay) (hst:=Sh.ay) (hta:=Sh.ay) (htb:=Sh.ay) (hxa:=Sh.ay) (hya:=Sh.ay) (hza:=Sh.ay) (hqa:=Sh.ay) (hqb:=Sh.ay) (hqc:=Sh.ay) (hqd:=Sh.ay) (hxb:=Sh.ay) (hyb:=Sh.ay) (hzb:=Sh.ay) (hra:=Sh.ay) (hrb:=Sh.ay) (hrc:=Sh.ay) (hrd:=Sh.ay) (h64fo:=Sh.ay) (h64cx:=Sh.ay) (h64cy:=Sh.ay) (h64u:=Sh.ay) (h64v:=Sh.ay) (h64r:=Sh.ay) (h64h:=Sh.ay)) (.c (j:=2) rfl .n) ?_
    rintro ⟨u3_1r2,u3_2r2,u3_3r2,u3_4r2⟩ hph2
    dsimp only [aq,nq,cq]
    replace hph2:Sh.Cc Sh.exS Sh.exC 64 128 0 0≠0→u3_1r2=wz∧u3_2r2=wz∧u3_3r2=wz∧u3_4r2=wz:=hph2
    refine e_dm 4 rfl rfl rfl<|e_pv 5 rfl rfl (zy rfl rfl)<|e_pv 6 rfl rfl (zy rfl rfl) ?_
    exact zN (hD2 (u3_1r2,u3_2r2,u3_3r2,u3_4r2)) kr ((.of rfl):SubM _ _) .rfl .rfl ((.of [0,1,2,3,4] rfl):SelR _ _ _)
   ·
    refine zva rfl rfl rfl rfl (zo zr46 rfl) (fun u7_1r2 _=> ?_)
    exact zN (hD3 u7_1r2) kr ((.of rfl):SubM _ _) .rfl .rfl ((.of [0,1,2] rfl):SelR _ _ _)
  refine zga (X:=Nat) (k':=7) (L':=(lb 10 134)) (fun u7_1r2=>([(4,.pointer (some ⟨u7_1r2,0,none⟩)),(19,.agg #[.int .i64 64,.int .i64 128]),(18,.agg #[.int .i64 640,.int .i64 0,.int .i64 0]),(3,.int .i64 0),(2,.pointer (some ⟨u7_1,0,none⟩)),(0,.bool false)],[boxA u7_1r2 46 (cw [wz,wz,wz,wz])],[boxA u7_1 46 (cw [u3_1,u3_2,u3_3,u3_4]),boxA b1 37 [.int .i64 640,.int .i64 0,.int .i64 0]],[qF true u3_1 u3_2 ((120:Int):Rat),qF true u3_3 u3_4 ((-200:Int):Rat),sgF])) ?_ (fun hD5=> ?_)
  ·
   rintro u7_1r2
   dsimp only [cw,cS]
   refine zMa 0 kr ?_
   ·
    refine zJa rfl rfl rfl rfl (.n) ce40 (zAb) (.n) ?_
    exact zN (hD3 u7_1r2) kr ((.of rfl):SubM _ _) .rfl .rfl ((.of [0,1,2] rfl):SelR _ _ _)
  refine zrb 0 7 kr ?_ ?_
  ·
   refine zJa rfl rfl rfl rfl (.n) ce40 (zAb) (.n) ?_
   exact zN (hD4 ()) kr ((.of rfl):SubM _ _) .rfl .rfl ((.of [0,1,2] rfl):SelR _ _ _)
  ·
   refine zva rfl rfl rfl rfl (zo zr46 rfl) (fun u7_1r2 _=> ?_)
   exact zN (hD5 u7_1r2) kr ((.of rfl):SubM _ _) .rfl .rfl ((.of [0,1,2] rfl):SelR _ _ _)
 refine zga (X:=Wd×Wd×Wd×Wd×Nat) (k':=2) (L':=(lb 10 255)) (fun (u3_1,u3_2,u3_3,u3_4,u7_1)=>([(2,.pointer (some ⟨u7_1,0,none⟩)),(15,.int .i64 (Sh.Gc Sh.exS Sh.exC 64 128 0)),(14,.agg (cw [u3_1,u3_2,u3_3,u3_4]).toArray),(1,.pointer (some ⟨b1,0,none⟩)),(0,.bool false)],[boxA u7_1 46 (cw [wz,wz,wz,wz])],[boxA b1 37 [.int .i64 640,.int .i64 0,.int .i64 0]],[qF (decide (Sh.Gc Sh.exS Sh.exC 64 128 0=0)) u3_1 u3_2 (Sh.Gx Sh.exS Sh.exC 64 128 0),qF (decide (Sh.Gc Sh.exS Sh.exC 64 128 0=0)) u3_3 u3_4 (Sh.Gy Sh.exS Sh.exC 64 128 0),sgF])) ?_ (fun hD1=> ?_)
 ·
  rintro ⟨u3_1,u3_2,u3_3,u3_4,u7_1⟩
  dsimp only [cw,cS]
  refine zMa 8 kr ?_
  ·
   refine zp kr rfl rfl rfl rfl rfl sz46 rfl (.t8 .nil)<|e_pv 9 rfl rfl (zh rfl) ?_
   exact zN (hD0 (u3_1,u3_2,u3_3,u3_4,u7_1)) kr ((.of rfl):SubM _ _) .rfl .rfl ((.of [0,1,2] rfl):SelR _ _ _)
 refine zga (X:=Wd×Wd×Wd×Wd) (k':=3) (L':=(lb 10 127)) (fun (u3_1,u3_2,u3_3,u3_4)=>([(15,.int .i64 (Sh.Gc Sh.exS Sh.exC 64 128 0)),(14,.agg (cw [u3_1,u3_2,u3_3,u3_4]).toArray),(1,.pointer (some ⟨b1,0,none⟩)),(0,.bool false)],[],[boxA b1 37 [.int .i64 640,.int .i64 0,.int .i64 0]],[qF (decide (Sh.Gc Sh.exS Sh.exC 64 128 0=0)) u3_1 u3_2 (Sh.Gx Sh.exS Sh.exC 64 128 0),qF (decide (Sh.Gc Sh.exS Sh.exC 64 128 0=0)) u3_3 u3_4 (Sh.Gy Sh.exS Sh.exC 64 128 0),sgF])) ?_ (fun hD2=> ?_)
 ·
  rintro ⟨u3_1,u3_2,u3_3,u3_4⟩
  dsimp only [cw,cS]
  refine zMa 7 kr ?_
  ·
   refine zva rfl rfl rfl rfl (zo zr46 rfl) (fun u7_1 _=> ?_)
   exact zN (hD1 (u3_1,u3_2,u3_3,u3_4,u7_1)) kr ((.of rfl):SubM _ _) .rfl .rfl ((.of [0,1,2] rfl):SelR _ _ _)
 refine zga (X:=Nat) (k':=6) (L':=(lb 10 135)) (fun u7_1=>([(2,.pointer (some ⟨u7_1,0,none⟩)),(10,.agg #[.int .i64 0,.int .i64 10,.int .i64 0,.int .i64 0,.int .i64 0,.int .i64 1000,.int .i64 0,.int .i64 1,.int .i64 0,.int .i64 0,.int .i64 100,.int .i64 100,.int .i64 0,.int .i64 1000,.int .i64 0,.int .i64 1,.int .i64 0,.int .i64 0]),(12,.agg #[.int .i64 64,.int .i64 128]),(11,.agg #[.int .i64 640,.int .i64 0,.int .i64 0]),(1,.pointer (some ⟨b1,0,none⟩)),(0,.bool false)],[boxA u7_1 46 (cw [wz,wz,wz,wz])],[boxA b1 37 [.int .i64 640,.int .i64 0,.int .i64 0]],[sgF])) ?_ (fun hD3=> ?_)
 ·
  rintro u7_1
  dsimp only [cw,cS]
  refine zMa 3 kr ?_
  ·
   refine zm rfl rfl rfl rfl (.c rfl (.c rfl (.c rfl (.c rfl .n)))) ce24 (zsd (s:=Sh.exS) (cm:=Sh.exC) (u:=64) (v:=128) (h:=0) (hfi:=Sh.ay) (hst:=Sh.ay) (hta:=Sh.ay) (htb:=Sh.ay) (hxa:=Sh.ay) (hya:=Sh.ay) (hza:=Sh.ay) (hqa:=Sh.ay) (hqb:=Sh.ay) (hqc:=Sh.ay) (hqd:=Sh.ay) (hxb:=Sh.ay) (hyb:=Sh.ay) (hzb:=Sh.ay) (hra:=Sh.ay) (hrb:=Sh.ay) (hrc:=Sh.ay) (hrd:=Sh.ay) (h64fo:=Sh.ay) (h64cx:=Sh.ay) (h64cy:=Sh.ay) (h64u:=Sh.ay) (h64v:=Sh.ay) (h64h:=Sh.ay)) (.c (j:=0) rfl .n) ?_
   rintro ⟨u3_1,u3_2,u3_3,u3_4⟩ hph1
   dsimp only [aq,nq,cq]
   replace hph1:Sh.Gc Sh.exS Sh.exC 64 128 0≠0→u3_1=wz∧u3_2=wz∧u3_3=wz∧u3_4=wz:=hph1
   refine e_dm 4 rfl rfl rfl<|e_pv 5 rfl rfl (zy rfl rfl)<|e_pv 6 rfl rfl (zy rfl rfl) ?_
   exact zN (hD1 (u3_1,u3_2,u3_3,u3_4,u7_1)) kr ((.of rfl):SubM _ _) .rfl .rfl ((.of [0,1,2] rfl):SelR _ _ _)
 refine zga (X:=Unit) (k':=7) (L':=(lb 10 7)) (fun _=>([(10,.agg #[.int .i64 0,.int .i64 10,.int .i64 0,.int .i64 0,.int .i64 0,.int .i64 1000,.int .i64 0,.int .i64 1,.int .i64 0,.int .i64 0,.int .i64 100,.int .i64 100,.int .i64 0,.int .i64 1000,.int .i64 0,.int .i64 1,.int .i64 0,.int .i64 0]),(12,.agg #[.int .i64 64,.int .i64 128]),(11,.agg #[.int .i64 640,.int .i64 0,.int .i64 0]),(1,.pointer (some ⟨b1,0,none⟩)),(0,.bool false)],[],[boxA b1 37 [.int .i64 640,.int .i64 0,.int .i64 0]],[sgF])) ?_ (fun hD4=> ?_)
 ·
  rintro ⟨⟩
  dsimp only
  refine zrb 3 7 kr ?_ ?_
  ·
   refine zm rfl rfl rfl rfl (.c rfl (.c rfl (.c rfl (.c rfl .n)))) ce24 (zsd (s:=Sh.exS) (cm:=Sh.exC) (u:=64) (v:=128) (h:=0) (hfi:=Sh.ay) (hst:=Sh.ay) (hta:=Sh.ay) (htb:=Sh.ay) (hxa:=Sh.ay) (hya:=Sh.ay) (hza:=Sh.ay) (hqa:=Sh.ay) (hqb:=Sh.ay) (hqc:=Sh.ay) (hqd:=Sh.ay) (hxb:=Sh.ay) (hyb:=Sh.ay) (hzb:=Sh.ay) (hra:=Sh.ay) (hrb:=Sh.ay) (hrc:=Sh.ay) (hrd:=Sh.ay) (h64fo:=Sh.ay) (h64cx:=Sh.ay) (h64cy:=Sh.ay) (h64u:=Sh.ay) (h64v:=Sh.ay) (h64h:=Sh.ay)) (.c (j:=0) rfl .n) ?_
   rintro ⟨u3_1,u3_2,u3_3,u3_4⟩ hph1
   dsimp only [aq,nq,cq]
   replace hph1:Sh.Gc Sh.exS Sh.exC 64 128 0≠0→u3_1=wz∧u3_2=wz∧u3_3=wz∧u3_4=wz:=hph1
   refine e_dm 4 rfl rfl rfl<|e_pv 5 rfl rfl (zy rfl rfl)<|e_pv 6 rfl rfl (zy rfl rfl) ?_
   exact zN (hD2 (u3_1,u3_2,u3_3,u3_4)) kr ((.of rfl):SubM _ _) .rfl .rfl ((.of [0,1,2] rfl):SelR _ _ _)
  ·
   refine zva rfl rfl rfl rfl (zo zr46 rfl) (fun u7_1 _=> ?_)
   exact zN (hD3 u7_1) kr ((.of rfl):SubM _ _) .rfl .rfl ((.c (j:=0) rfl .n):SelR _ _ _)
 refine zga (X:=Nat) (k':=7) (L':=(lb 10 134)) (fun u7_1=>([(2,.pointer (some ⟨u7_1,0,none⟩)),(12,.agg #[.int .i64 64,.int .i64 128]),(11,.agg #[.int .i64 640,.int .i64 0,.int .i64 0]),(1,.pointer (some ⟨b1,0,none⟩)),(0,.bool false)],[boxA u7_1 46 (cw [wz,wz,wz,wz])],[boxA b1 37 [.int .i64 640,.int .i64 0,.int .i64 0]],[sgF])) ?_ (fun hD5=> ?_)
 ·
  rintro u7_1
  dsimp only [cw,cS]
  refine zMa 0 kr ?_
  ·
   refine zJa rfl rfl rfl rfl (.n) ce40 (zAb) (.n) ?_
   exact zN (hD3 u7_1) kr ((.of rfl):SubM _ _) .rfl .rfl ((.c (j:=0) rfl .n):SelR _ _ _)
 refine zrb 0 7 kr ?_ ?_
 ·
  refine zJa rfl rfl rfl rfl (.n) ce40 (zAb) (.n) ?_
  exact zN (hD4 ()) kr ((.of rfl):SubM _ _) .rfl .rfl ((.c (j:=0) rfl .n):SelR _ _ _)
 ·
  refine zva rfl rfl rfl rfl (zo zr46 rfl) (fun u7_1 _=> ?_)
  exact zN (hD5 u7_1) kr ((.of rfl):SubM _ _) .rfl .rfl ((.c (j:=0) rfl .n):SelR _ _ _)
end Go.Proofs.YtjeahiahjgifgaaGreatDoor.Sp
namespace Go.Proofs.YtjeahiahjgifgaaGreatDoor.Sp
open Go
set_option linter.unusedVariables false
theorem at_part {g:Hp} {b:Nat} {cs:List Value} (h:AtP g b 0 cs) (k m:Nat):AtP g b k ((cs.drop k).take m):=by
  obtain ⟨cells,T,fz,e,hc⟩:=h
  refine ⟨cells,T,fz,e,fun j v hv=> ?_⟩
  rw [List.getElem?_take] at hv
  split at hv
  · rw [List.getElem?_drop] at hv
    have:=hc (k+j) v hv
    rwa [Nat.zero_add] at this
  · cases hv
theorem sl3_of {R:List Fa} {b:Nat} {w1 w2 w3 w4 w5 w6:Wd} {x y z:Rat} (i j k l:Nat) (hi:R[i]? =some (atF b 0 [w1.b,w1.l,w2.b,w2.l,w3.b,w3.l,w4.b,w4.l,w5.b,w5.l,w6.b,w6.l])) (hj:R[j]? =some (qF true w1 w2 x)) (hk:R[k]? =some (qF true w3 w4 y)) (hl:R[l]? =some (qF true w5 w6 z)):
    ∀g,Holds g R→(slF rQ (some ⟨b,0,none⟩) 3 [x,y,z]).on g:=fun g h=>by
  have ha:AtP g b 0 [w1.b,w1.l,w2.b,w2.l,w3.b,w3.l,w4.b,w4.l,w5.b,w5.l,w6.b,w6.l]:=Holds.get i hi h
  have h1:(qF true w1 w2 x).on g:=Holds.get j hj h
  have h2:(qF true w3 w4 y).on g:=Holds.get k hk h
  have h3:(qF true w5 w6 z).on g:=Holds.get l hl h
  refine ⟨Nat.le_refl _,by decide,(fun e=>by cases e),fun q u hu=> ?_⟩
  match q,hu with
  |0,hu=>obtain rfl:=Option.some.inj hu;exact ⟨b,0,(w1,w2),rfl,at_part ha 0 4,h1⟩
  |1,hu=>obtain rfl:=Option.some.inj hu;exact ⟨b,0,(w3,w4),rfl,at_part ha 4 4,h2⟩
  |2,hu=>obtain rfl:=Option.some.inj hu;exact ⟨b,0,(w5,w6),rfl,at_part ha 8 4,h3⟩
  |_+3,hu=>simp at hu
end Go.Proofs.YtjeahiahjgifgaaGreatDoor.Sp
namespace Go.Proofs.YtjeahiahjgifgaaGreatDoor.Sp
open Go
set_option linter.unusedVariables false
section
variable {P : Program} {c : Cx} {n : Sz} {Q : Exit → Act → World → Prop} {m : Fm} {O : List As} {R : List Fa} {α : Type} {d : Option Tmp} {ty : TypeId} {ps : String} {af : Array Edge} {gd : Option (Nat × Bool)}
theorem RowOn.drop {T:TypeId} {r:Rp α} {p:Option Addr} {cap:Nat} {l:List α} {g h:Hp} (k:Nat) (hk:k≤l.length) (s:RowOn T r p cap l g h):RowOn T r (newP p cap k r.sz) (cap - k) (l.drop k) g h:=by
  rcases s with ⟨h1,h2,h3,h4⟩|⟨b,off,cells,e1,e2,e3,e4,e5,e6⟩
  · subst h3; simp at hk; subst hk
    exact .inl ⟨by unfold newP;rw [h1];split <;> rfl,by omega,rfl,h4⟩
  · by_cases e : cap = k
    · refine .inr ⟨b, off, cells, by unfold newP; rw [if_pos e, e1], by rw [List.length_drop]; omega, by omega, ?_, e5, fun i x h => ?_⟩
      · rw [e,Nat.sub_self,Nat.zero_mul];omega
      · rw [List.getElem?_drop] at h
        have:=(List.getElem?_eq_some_iff.1 h).1;omega
    · refine .inr ⟨b, off + k * r.sz, cells, ?_, by rw [List.length_drop]; omega, by omega, ?_, e5, fun i x h => ?_⟩
      · unfold newP; rw [if_neg e, e1]
        by_cases z:k*r.sz=0
        · rw [z];simp [Addr.add]
        · simp [Addr.add,z]
      · have : (cap - k) * r.sz + k * r.sz = cap * r.sz := by rw [← Nat.add_mul]; congr 1; omega
        omega
      · rw [List.getElem?_drop] at h
        obtain ⟨γ,a1,a2⟩:=e6 (k+i) x h
        refine ⟨γ,⟨a1.1,fun j v hv=> ?_⟩,a2⟩
        have:=a1.2 j v hv
        rw [Nat.add_mul] at this
        rw [show off+k*r.sz+i*r.sz+j=off+(k*r.sz+i*r.sz)+j by omega];exact this
theorem zMc {t e:TypeId} {x:Operand} {b o len sz:Nat} (hu:P.underlying t=some (.array len e)) (ht:(P.info? e).map (·.size)=some sz) (h:evo m x=some (.pointer (some ⟨b,o,none⟩))):
    PV P n ⟨d,.slice t x none none none,ty,ps,af,gd⟩ m (.slice (some ⟨b,o,none⟩) len len):=fun a w f=>by
  have e:Instr.sureAddr (.pointer (some ⟨b,o,none⟩))=pure ⟨b,o,none⟩:=rfl
  simp [execOp,f.ev h,Instr.sliceAt,Instr.sliceBounds,run_underlying hu,zEa ht,Instr.sureAddr,Addr.add]
end
end Go.Proofs.YtjeahiahjgifgaaGreatDoor.Sp
namespace Go.Proofs.YtjeahiahjgifgaaGreatDoor.Sp
open Go
set_option linter.unusedVariables false
set_option maxRecDepth 100000
set_option maxHeartbeats 8000000
theorem zFd {s:Sh.S} {r:Int} (hok:Sh.Ok s) (hr:0≤r∧r≤64) (hlt:s.ta<s.tb):Con Tryz.prog 36 [.agg #[.int .i64 (s.fi),.int .i64 (s.st),.int .i64 (s.ta),.int .i64 (s.xa),.int .i64 (s.ya),.int .i64 (s.za),.int .i64 (s.qa),.int .i64 (s.qb),.int .i64 (s.qc),.int .i64 (s.qd),.int .i64 (s.tb),.int .i64 (s.xb),.int .i64 (s.yb),.int .i64 (s.zb),.int .i64 (s.ra),.int .i64 (s.rb),.int .i64 (s.rc),.int .i64 (s.rd)],.int .i64 r] [] [] (Y:=(Option Addr)) (fun y=>True) (fun y=> .slice y 3 3) (fun y=>[]) (fun y=>[slF rQ y 3 ([(Sh.pos s r).1,(Sh.pos s r).2.1,(Sh.pos s r).2.2])]):=by
 refine zw Tryz.func36 rfl rfl rfl (fun c=> ?_)
 show RunC _ _ _ _ _ [(0,.agg #[.int .i64 (s.fi),.int .i64 (s.st),.int .i64 (s.ta),.int .i64 (s.xa),.int .i64 (s.ya),.int .i64 (s.za),.int .i64 (s.qa),.int .i64 (s.qb),.int .i64 (s.qc),.int .i64 (s.qd),.int .i64 (s.tb),.int .i64 (s.xb),.int .i64 (s.yb),.int .i64 (s.zb),.int .i64 (s.ra),.int .i64 (s.rb),.int .i64 (s.rc),.int .i64 (s.rd)]),(1,.int .i64 r)] [] []
 refine zj<|zc<|zH rfl rfl (zba rfl rfl) (fun b1=> ?_)
 refine e_p (zh rfl)<|zk<|zg<|zj<|zc<|e_ru (ze 0 ty29 rfl rfl (.t8 (.t8 (.t2 .nil))))<|e_mv rfl<|zE rfl rfl (.c rfl (.c rfl .n)) ce51 (zEd (s:=s) (r:=r) (hok:=ass) (hr:=ass) (hlt:=ass)) (.n) ?_
 rintro ⟨w12,w23,w34,w45,w56,w67⟩ -
 dsimp only [aq,nq,cq]
 refine zH rfl rfl (zo zr54 rfl) (fun b8=> ?_)
 refine zl 0 rfl rfl rfl rfl rfl sz54 rfl (.t8 (.t4 .nil)) .z<|zk<|zg<|zj<|zQb 0 rfl .z<|zGf (slF rQ (some ⟨b8,0,none⟩) 3 [(Sh.pos s r).1,(Sh.pos s r).2.1,(Sh.pos s r).2.2]) (fun g h=>sl3_of 0 1 2 3 rfl rfl rfl rfl g h)<|zc<|e_p (zMc Tryz.underlying54 sz44 rfl)<|e_p (zh rfl)<|zk<|zg<|zO ?_
 exact zL Tryz.results36 (some ⟨b8,0,none⟩) trivial (zB rfl) rfl (ho:=(.n:PickO _ _ _)) ((.c (j:=0) rfl .n):SelR _ _ _)
end Go.Proofs.YtjeahiahjgifgaaGreatDoor.Sp
namespace Go.Proofs.YtjeahiahjgifgaaGreatDoor.Sp
open Go
set_option linter.unusedVariables false
set_option maxRecDepth 100000
set_option maxHeartbeats 8000000
theorem zEf {s:Sh.S} {r:Int} (hfi: -9223372036854775808≤s.fi∧s.fi≤9223372036854775807) (hst: -9223372036854775808≤s.st∧s.st≤9223372036854775807) (hta: -9223372036854775808≤s.ta∧s.ta≤9223372036854775807) (htb: -9223372036854775808≤s.tb∧s.tb≤9223372036854775807) (hxa: -9223372036854775808≤s.xa∧s.xa≤9223372036854775807) (hya: -9223372036854775808≤s.ya∧s.ya≤9223372036854775807) (hza: -9223372036854775808≤s.za∧s.za≤9223372036854775807) (hqa: -9223372036854775808≤s.qa∧s.qa≤9223372036854775807) (hqb: -9223372036854775808≤s.qb∧s.qb≤9223372036854775807) (hqc: -9223372036854775808≤s.qc∧s.qc≤9223372036854775807) (hqd: -9223372036854775808≤s.qd∧s.qd≤9223372036854775807) (hxb: -9223372036854775808≤s.xb∧s.xb≤9223372036854775807) (hyb: -9223372036854775808≤s.yb∧s.yb≤9223372036854775807) (hzb: -9223372036854775808≤s.zb∧s.zb≤9223372036854775807) (hra: -9223372036854775808≤s.ra∧s.ra≤9223372036854775807) (hrb: -9223372036854775808≤s.rb∧s.rb≤9223372036854775807) (hrc: -9223372036854775808≤s.rc∧s.rc≤9223372036854775807) (hrd: -9223372036854775808≤s.rd∧s.rd≤9223372036854775807) (h64r: -9223372036854775808≤r∧r≤9223372036854775807):Con Tryz.prog 26 [.agg #[.int .i64 (s.fi),.int .i64 (s.st),.int .i64 (s.ta),.int .i64 (s.xa),.int .i64 (s.ya),.int .i64 (s.za),.int .i64 (s.qa),.int .i64 (s.qb),.int .i64 (s.qc),.int .i64 (s.qd),.int .i64 (s.tb),.int .i64 (s.xb),.int .i64 (s.yb),.int .i64 (s.zb),.int .i64 (s.ra),.int .i64 (s.rb),.int .i64 (s.rc),.int .i64 (s.rd)],.int .i64 r] [] [] (Y:=Wd×Wd×Wd×Wd×Wd×Wd) (fun y=>Sh.Pc s r≠0→y.1=wz∧y.2.1=wz∧y.2.2.1=wz∧y.2.2.2.1=wz∧y.2.2.2.2.1=wz∧y.2.2.2.2.2=wz) (fun y=> .tuple #[.agg #[y.1.b,y.1.l,y.2.1.b,y.2.1.l,y.2.2.1.b,y.2.2.1.l,y.2.2.2.1.b,y.2.2.2.1.l,y.2.2.2.2.1.b,y.2.2.2.2.1.l,y.2.2.2.2.2.b,y.2.2.2.2.2.l],.agg #[.int .i64 ((Sh.Pq s r).1),.int .i64 ((Sh.Pq s r).2.1),.int .i64 ((Sh.Pq s r).2.2.1),.int .i64 ((Sh.Pq s r).2.2.2)],.int .i64 (Sh.Pc s r)]) (fun y=>[]) (fun y=>[qF (decide (Sh.Pc s r=0)) y.1 y.2.1 ((Sh.Pp s r).1),qF (decide (Sh.Pc s r=0)) y.2.2.1 y.2.2.2.1 ((Sh.Pp s r).2.1),qF (decide (Sh.Pc s r=0)) y.2.2.2.2.1 y.2.2.2.2.2 ((Sh.Pp s r).2.2)]):=by
 refine zw Tryz.func26 rfl rfl rfl (fun c=> ?_)
 show RunC _ _ _ _ _ [(0,.agg #[.int .i64 (s.fi),.int .i64 (s.st),.int .i64 (s.ta),.int .i64 (s.xa),.int .i64 (s.ya),.int .i64 (s.za),.int .i64 (s.qa),.int .i64 (s.qb),.int .i64 (s.qc),.int .i64 (s.qd),.int .i64 (s.tb),.int .i64 (s.xb),.int .i64 (s.yb),.int .i64 (s.zb),.int .i64 (s.ra),.int .i64 (s.rb),.int .i64 (s.rc),.int .i64 (s.rd)]),(1,.int .i64 r)] [] []
 refine zj<|zc<|zH rfl rfl (zba rfl rfl) (fun b1=> ?_)
 refine zH rfl rfl (zo zr54 rfl) (fun b2=> ?_)
 refine zH rfl rfl (zo zr25 rfl) (fun b3=> ?_)
 refine e_p (zh rfl)<|zk<|zg<|zj<|zj<|zc<|e_ru (ze 2 ty29 rfl rfl (.t8 (.t8 (.t2 .nil))))<|zR rfl rfl (.c rfl (.c rfl .n)) ce12 (zRb (s:=s) (n:=1) (hfi:=ass) (hst:=ass) (hta:=ass) (htb:=ass) (hxa:=ass) (hya:=ass) (hza:=ass) (hqa:=ass) (hqb:=ass) (hqc:=ass) (hqd:=ass) (hxb:=ass) (hyb:=ass) (hzb:=ass) (hra:=ass) (hrb:=ass) (hrc:=ass) (hrd:=ass)) (.n)<|e_p (zh rfl)<|zk<|zg<|zj<|zc<|e_mv rfl<|e_p (zhb rfl rfl)<|zk<|zg<|zP rfl (fun hc=> ?_) (fun hc=> ?_)
 ·
  refine zj<|zc<|e_p (zwa zr54 rfl Tryz.underlying54 sz44 .n .n)<|e_p (zu zr25 rfl Tryz.underlying25 (.c sz3 (.c sz3 (.c sz3 (.c sz3 .n)))) .n .n)<|e_mv rfl<|zl 1 rfl rfl rfl rfl rfl sz54 rfl (.t8 (.t4 .nil)) (.s .z)<|zl 0 rfl rfl rfl rfl rfl sz25 rfl (.t4 .nil) .z<|e_p (zh rfl)<|zk<|zg<|zO<|zt<|zVa (qF false wz wz 0) (fun g _=>qF_none g) ?_
  have hg9:Sh.Pc s r=Sh.chk s 1:=if_neg hc
  have hg8:¬Sh.Pc s r=0:=by rw [hg9];exact hc
  have hx9:Sh.Pp s r=(0,0,0):=if_neg hg8
  have hy9:Sh.Pq s r=(0,0,0,0):=if_neg hg8
  exact zcc Tryz.results26 (wz,wz,wz,wz,wz,wz) (fun _=>⟨rfl,rfl,rfl,rfl,rfl,rfl⟩) (zr 1 ty54 rfl rfl (.t8 (.t4 .nil))) (zr 0 ty25 rfl rfl (.t4 .nil)) (zB rfl) (by rw [hg9,hy9];rfl) (ho:=(.n:PickO _ _ _)) ((.e (j:=0) rfl (by rw [hx9,decide_eq_false hg8]) (.e (j:=0) rfl (by rw [hx9,decide_eq_false hg8]) (.e (j:=0) rfl (by rw [hx9,decide_eq_false hg8]) .n))):SelR _ _ _)
 ·
  have hc0:Sh.chk s 1=0:=Decidable.not_not.1 hc
  obtain ⟨hok,-,hlt,hnd⟩:=Sh.chk_ok hc0
  refine zx<|zg<|zj<|zj<|zc<|e_mv rfl<|zR rfl rfl (.c rfl .n) ce44 (zYb (r:=r)) (.n)<|e_p (zHa rfl)<|zk<|zg<|zP rfl (fun hin=> ?_) (fun hin=> ?_)
  ·
   refine zj<|zc<|e_p (zwa zr54 rfl Tryz.underlying54 sz44 .n .n)<|e_p (zu zr25 rfl Tryz.underlying25 (.c sz3 (.c sz3 (.c sz3 (.c sz3 .n)))) .n .n)<|zl 1 rfl rfl rfl rfl rfl sz54 rfl (.t8 (.t4 .nil)) (.s .z)<|zl 0 rfl rfl rfl rfl rfl sz25 rfl (.t4 .nil) .z<|e_p (zh rfl)<|zk<|zg<|zO<|zt<|zVa (qF false wz wz 0) (fun g _=>qF_none g) ?_
   have hg9:Sh.Pc s r=2:=(if_pos hc0).trans (if_neg hin)
   have hg8:¬Sh.Pc s r=0:=by rw [hg9];decide
   have hx9:Sh.Pp s r=(0,0,0):=if_neg hg8
   have hy9:Sh.Pq s r=(0,0,0,0):=if_neg hg8
   exact zcc Tryz.results26 (wz,wz,wz,wz,wz,wz) (fun _=>⟨rfl,rfl,rfl,rfl,rfl,rfl⟩) (zr 1 ty54 rfl rfl (.t8 (.t4 .nil))) (zr 0 ty25 rfl rfl (.t4 .nil)) (zB rfl) (by rw [hg9,hy9];rfl) (ho:=(.n:PickO _ _ _)) ((.e (j:=0) rfl (by rw [hx9,decide_eq_false hg8]) (.e (j:=0) rfl (by rw [hx9,decide_eq_false hg8]) (.e (j:=0) rfl (by rw [hx9,decide_eq_false hg8]) .n))):SelR _ _ _)
  ·
   have hin2:=Decidable.not_not.1 hin
   refine zx<|zg<|zj<|zc<|e_ru (ze 2 ty29 rfl rfl (.t8 (.t8 (.t2 .nil))))<|e_mv rfl<|zR rfl rfl (.c rfl (.c rfl .n)) ce43 (zBb (s:=s) (r:=r) (hok:=cbd) (hr:=cbd)) (.n)<|zH rfl rfl (zo zr25 rfl) (fun b4=> ?_)
   refine zl 0 rfl rfl rfl rfl rfl sz25 rfl (.t4 .nil) .z<|zk<|zg<|zj<|zj<|zc<|e_ru (ze 0 ty25 rfl rfl (.t4 .nil))<|e_p (zu zr25 rfl Tryz.underlying25 (.c sz3 (.c sz3 (.c sz3 (.c sz3 .n)))) .n .n)<|e_p (zPa (p:=(Sh.rot s r).1=0∧(Sh.rot s r).2.1=0∧(Sh.rot s r).2.2.1=0∧(Sh.rot s r).2.2.2=0) kr rfl rfl (zOa Tryz.underlying25 kr (zoa dd ty3 rfl rfl (zna Tryz.underlying3) (zoa dd ty3 rfl rfl (zna Tryz.underlying3) (zoa dd ty3 rfl rfl (zna Tryz.underlying3) (zoa dd ty3 rfl rfl (zna Tryz.underlying3) zxb))))) (by simp [Bool.decide_and]))<|zk<|zg<|zP rfl (fun hz4=> ?_) (fun hz4=> ?_)
   ·
    refine zj<|zc<|e_p (zwa zr54 rfl Tryz.underlying54 sz44 .n .n)<|e_p (zu zr25 rfl Tryz.underlying25 (.c sz3 (.c sz3 (.c sz3 (.c sz3 .n)))) .n .n)<|zl 2 rfl rfl rfl rfl rfl sz54 rfl (.t8 (.t4 .nil)) (.s (.s .z))<|zl 1 rfl rfl rfl rfl rfl sz25 rfl (.t4 .nil) (.s .z)<|e_p (zh rfl)<|zk<|zg<|zO<|zt<|zVa (qF false wz wz 0) (fun g _=>qF_none g) ?_
    have hg9:Sh.Pc s r=13:=((if_pos hc0).trans (if_pos hin2)).trans (if_pos hz4)
    have hg8:¬Sh.Pc s r=0:=by rw [hg9];decide
    have hx9:Sh.Pp s r=(0,0,0):=if_neg hg8
    have hy9:Sh.Pq s r=(0,0,0,0):=if_neg hg8
    exact zcc Tryz.results26 (wz,wz,wz,wz,wz,wz) (fun _=>⟨rfl,rfl,rfl,rfl,rfl,rfl⟩) (zr 2 ty54 rfl rfl (.t8 (.t4 .nil))) (zr 1 ty25 rfl rfl (.t4 .nil)) (zB rfl) (by rw [hg9,hy9];rfl) (ho:=(.n:PickO _ _ _)) ((.e (j:=0) rfl (by rw [hx9,decide_eq_false hg8]) (.e (j:=0) rfl (by rw [hx9,decide_eq_false hg8]) (.e (j:=0) rfl (by rw [hx9,decide_eq_false hg8]) .n))):SelR _ _ _)
   ·
    refine zx<|zg<|zj<|zca (.c (i:=2) rfl (.c (i:=1) rfl (.c (i:=0) rfl (.c (i:=0) rfl .n))))<|zT (OW:=[boxA b2 54 (cw [wz,wz,wz,wz,wz,wz]),boxA b3 25 [.int .i64 0,.int .i64 0,.int .i64 0,.int .i64 0]]) (O:=[boxA b4 25 [.int .i64 ((Sh.rot s r).1),.int .i64 ((Sh.rot s r).2.1),.int .i64 ((Sh.rot s r).2.2.1),.int .i64 ((Sh.rot s r).2.2.2)],boxA b1 29 (cS s)]) 4 mixed (.then .ret) kr<|e_uw 0 rfl rfl (ze 3 ty29 rfl rfl (.t8 (.t8 (.t2 .nil))))<|e_dm 1 rfl rfl rfl<|e_u 3 rfl rfl (ze 0 ty25 rfl rfl (.t4 .nil))<|e_one 2 (zm rfl rfl rfl rfl (.c rfl (.c rfl .n)) ce61 (zTb (s:=s) (r:=r) (hok:=cbd) (hr:=cbd) (hlt:=cbd)) (.n) ?_)
    rintro ⟨w15,w26,w37,w48,w59,w610⟩ -
    dsimp only [aq,nq,cq]
    refine e_one 4 (zp kr rfl rfl rfl rfl rfl sz54 rfl (.t8 (.t4 .nil)) ?_)
    refine zab (zla (i:=1) rfl)<|e_one 5 (zp kr rfl rfl rfl rfl rfl sz25 rfl (.t4 .nil) ?_)
    refine e_pv 6 rfl rfl (zh rfl)<|zQ kr<|zg<|zO ?_
    have hg9:Sh.Pc s r=0:=((if_pos hc0).trans (if_pos hin2)).trans (if_neg hz4)
    have hx9:Sh.Pp s r=Sh.pos s r:=if_pos hg9
    have hy9:Sh.Pq s r=Sh.rot s r:=if_pos hg9
    exact zcc Tryz.results26 (w15,w26,w37,w48,w59,w610) (fun k=>absurd hg9 k) (zr 1 ty54 rfl rfl (.t8 (.t4 .nil))) (zr 0 ty25 rfl rfl (.t4 .nil)) (zB rfl) (by rw [hg9,hy9]) (ho:=(.n:PickO _ _ _)) ((.e (j:=0) rfl (by rw [hx9,decide_eq_true hg9]) (.e (j:=1) rfl (by rw [hx9,decide_eq_true hg9]) (.e (j:=2) rfl (by rw [hx9,decide_eq_true hg9]) .n))):SelR _ _ _)
end Go.Proofs.YtjeahiahjgifgaaGreatDoor.Sp
namespace Go.Proofs.YtjeahiahjgifgaaGreatDoor.Sp
open Go
set_option linter.unusedVariables false
set_option maxRecDepth 100000
set_option maxHeartbeats 8000000
theorem zGd {p1:Option Addr} {n1:Nat} {c1:Nat} {l1:List Rat} {p2:Option Addr} {n2:Nat} {c2:Nat} {l2:List Rat} (hn1:l1.length=n1) (hn2:l2.length=n2) (hl:∀i,i<n1→i<n2→Big.hq (l1.getD i 0)+Big.hq (l2.getD i 0)+1≤1048576):Con Tryz.prog 35 [.slice p1 n1 c1,.slice p2 n2 c2] [] [slF rQ p1 c1 l1,slF rQ p2 c2 l2] (Y:=Unit) (fun y=>True) (fun y=> .bool (decide (l1=l2))) (fun y=>[]) (fun y=>[]):=by
 refine zw Tryz.func35 rfl rfl rfl (fun c=> ?_)
 show RunC _ _ _ _ _ [(0,.slice p1 n1 c1),(1,.slice p2 n2 c2)] [] [slF rQ p1 c1 l1,slF rQ p2 c2 l2]
 refine zta 0 rfl (fun hL0=> ?_)
 refine zta 1 rfl (fun hL1=> ?_)
 refine zj<|zc<|e_p (zh rfl)<|zk<|zg<|zj<|zj<|zc<|e_mv rfl<|e_p (zea Tryz.underlying83 rfl)<|e_mv rfl<|e_p (zea Tryz.underlying83 rfl)<|e_p (zhb rfl rfl)<|zk<|zg<|zP rfl (fun hne=> ?_) (fun hne=> ?_)
 ·
  refine zj<|zc<|e_p (zh rfl)<|zk<|zg<|zO<|zt ?_
  exact zL Tryz.results35 () trivial (zB rfl) (congrArg Value.bool (decide_eq_false (fun e=>hne (by rw [← hn1,←hn2,e])))) (ho:=(.n:PickO _ _ _)) (.n:SelR _ _ _)
 ·
  refine zx<|zg<|zj<|zj<|zc<|e_p (zh rfl)<|zk<|zg<|zv<|zya (X:=Nat) (fun x:Nat=>x≤n1∧∀j,j<x→l1.getD j 0=l2.getD j 0) (fun x=>[(5,.int .i64 ((x:Nat):Int)),(0,.slice p1 n1 c1),(1,.slice p2 n2 c2)]) (fun x=>[]) (fun x=>[slF rQ p1 c1 l1,slF rQ p2 c2 l2]) (fun x:Nat=>n1 - x) 0 (show 0≤n1∧∀j,j<0→l1.getD j 0=l2.getD j 0 from by exact ⟨Nat.zero_le _,fun j h=>by omega⟩) ((.e rfl (by first|rfl|(congr 1;omega)|simp_all) (.c rfl (.c rfl .n))):SubM _ _) (ho:=(.n:PickO _ _ _)) ((.of [0,1] rfl):SelR _ _ _) ?_
  rintro i hI
  replace hI:i≤n1∧∀j,j<i→l1.getD j 0=l2.getD j 0:=hI
  try dsimp only
  obtain ⟨hi,hall⟩:=hI
  refine zj<|zj<|zc<|e_mv rfl<|e_mv rfl<|e_p (zea Tryz.underlying83 rfl)<|e_p (zV rfl rfl)<|zk<|zg<|zP rfl (fun h1=> ?_) (fun h1=> ?_)
  ·
   refine zx<|zg<|zj<|zv<|zj<|zT (OW:=[]) (O:=[]) 100000 mixed (.then (.block (.then (.then (.block (.then .ret)))))) kr<|e_dm 0 rfl rfl rfl<|e_dm 1 rfl rfl rfl<|d_vl 2 rfl rfl kr kr rfl rfl (zOc (x0:=(l1.getD i (0:Rat))) 0 i rfl Tryz.underlying83 sz44 rfl cbs rfl rfl (gD (d:=(0:Rat)) om)) ?_
   rintro ⟨b2,o3,w4,w5⟩ -
   dsimp only [aq,nq,cq]
   refine zHf open_rQ<|e_u 3 rfl rfl (zW (j:=0) 0 ty44 rfl rfl rfl (.t4 .nil))<|e_dm 4 rfl rfl rfl<|e_dm 5 rfl rfl rfl<|d_vl 6 rfl rfl kr kr rfl rfl (zOc (x0:=(l2.getD i (0:Rat))) 3 i rfl Tryz.underlying83 sz44 rfl cbs rfl rfl (gD (d:=(0:Rat)) om)) ?_
   rintro ⟨b6,o7,w8,w9⟩ -
   dsimp only [aq,nq,cq]
   refine zHf open_rQ<|e_u 7 rfl rfl (zW (j:=0) 0 ty44 rfl rfl rfl (.t4 .nil))<|e_one 8 (zJa rfl rfl rfl rfl (.c rfl (.c rfl .n)) ce27 (zEc (u1:=w4) (v1:=w5) (q1:=(l1.getD i (0:Rat))) (u2:=w8) (v2:=w9) (q2:=(l2.getD i (0:Rat))) (hl:=by first|rfl|assumption|exact hl i om om|omega)) (.c (j:=3) rfl (.c (j:=1) rfl .n)) ?_)
   refine e_pv 9 rfl rfl (zHa rfl)<|zQ kr<|zg<|zP rfl (fun hd=> ?_) (fun hd=> ?_)
   ·
    refine zj<|zc<|e_p (zh rfl)<|zk<|zg<|zO<|zda<|zt<|zt<|zda<|zt ?_
    exact zL Tryz.results35 () trivial (zB rfl) (congrArg Value.bool (decide_eq_false (fun e=>hd (by rw [e])))) (ho:=(.n:PickO _ _ _)) (.n:SelR _ _ _)
   ·
    refine zx<|zK<|zg<|zc<|e_mv rfl<|e_p (zJ (z:=(((i+1):Nat):Int)) rfl rfl (w64 om))<|e_p (zh rfl)<|zk<|zxa (i+1) (show (i+1)≤n1∧∀j,j<(i+1)→l1.getD j 0=l2.getD j 0 from by refine ⟨by omega,fun j hj=> ?_⟩;by_cases e:j=i;subst e;exact Decidable.not_not.1 hd;exact hall j om) (by show n1 - (i+1)<n1 - i;omega) ((.of rfl):SubM _ _) (ho:=(.n:PickO _ _ _)) ((.of [4,5] rfl):SelR _ _ _)
  ·
   refine zpa<|zn<|zn<|zD<|zg<|zj<|zc<|e_p (zh rfl)<|zk<|zg<|zO ?_
   exact zL Tryz.results35 () trivial (zB rfl) (congrArg Value.bool (decide_eq_true (Big.ext_getR om (fun j hj=>hall j om)))) (ho:=(.n:PickO _ _ _)) (.n:SelR _ _ _)
end Go.Proofs.YtjeahiahjgifgaaGreatDoor.Sp
namespace Go.Proofs.YtjeahiahjgifgaaGreatDoor.Sh
open Go.Proofs.YtjeahiahjgifgaaGreatDoor.Big
theorem Pc_zero {s:S} {r:Int} (g:Pc s r=0):chk s 1=0∧inr r∧¬z4 (rot s r):=by
  unfold Pc at g
  split at g
  · rename_i h1; split at g
    · rename_i h2; split at g
      · cases g
      · rename_i h3;exact ⟨h1,h2,h3⟩
    · cases g
  · rename_i h1;exact absurd g h1
def tc (s:S) (r:Int):Int:=if chk s 1=0 then (if 0≤r∧r<64 then 0 else 2) else chk s 1
theorem tc_zero {s:S} {r:Int} (g:tc s r=0):chk s 1=0∧(0≤r∧r<64):=by
  unfold tc at g
  split at g
  · rename_i h1; split at g
    · rename_i h2;exact ⟨h1,h2⟩
    · cases g
  · rename_i h1;exact absurd g h1
theorem Pc_yes {s:S} {r:Int} (g:tc s r=0∧z4 (rot s r)):(13:Int)=Pc s r:=by
  obtain ⟨h1,h2⟩:=tc_zero g.1
  unfold Pc;rw [if_pos h1,if_pos (show inr r from h2),if_pos g.2]
theorem Pc_no {s:S} {r:Int} (g:¬(tc s r=0∧z4 (rot s r))):tc s r=Pc s r:=by
  unfold Pc tc at*
  by_cases h1:chk s 1=0
  · rw [if_pos h1] at g ⊢
    by_cases h2:0≤r∧r<64
    · rw [if_pos h2] at g ⊢
      rw [if_pos h1,if_pos (show inr r from h2),if_neg (fun k=>g ⟨rfl,k⟩)]
    · rw [if_neg h2,if_pos h1,if_neg (show ¬inr r from h2)]
  · rw [if_neg h1,if_neg h1]
theorem hq3 {x y z x' y' z':Rat} {k:Nat} (hk:k≤1000) (h1:hq x≤k∧hq y≤k∧hq z≤k) (h2:hq x'≤k∧hq y'≤k∧hq z'≤k):∀i,i<3→i<3→hq ([x,y,z].getD i 0)+hq ([x',y',z'].getD i 0)+1≤1048576
  |0,_,_=>by show hq x+hq x'+1≤1048576;omega
  |1,_,_=>by show hq y+hq y'+1≤1048576;omega
  |2,_,_=>by show hq z+hq z'+1≤1048576;omega
  |_+3,h,_=>by omega
end Go.Proofs.YtjeahiahjgifgaaGreatDoor.Sh
namespace Go.Proofs.YtjeahiahjgifgaaGreatDoor.Sp
open Go
set_option linter.unusedVariables false
set_option maxRecDepth 100000
set_option maxHeartbeats 8000000
theorem zNc {s:Sh.S} {r:Int} (hfi: -9223372036854775808≤s.fi∧s.fi≤9223372036854775807) (hst: -9223372036854775808≤s.st∧s.st≤9223372036854775807) (hta: -9223372036854775808≤s.ta∧s.ta≤9223372036854775807) (htb: -9223372036854775808≤s.tb∧s.tb≤9223372036854775807) (hxa: -9223372036854775808≤s.xa∧s.xa≤9223372036854775807) (hya: -9223372036854775808≤s.ya∧s.ya≤9223372036854775807) (hza: -9223372036854775808≤s.za∧s.za≤9223372036854775807) (hqa: -9223372036854775808≤s.qa∧s.qa≤9223372036854775807) (hqb: -9223372036854775808≤s.qb∧s.qb≤9223372036854775807) (hqc: -9223372036854775808≤s.qc∧s.qc≤9223372036854775807) (hqd: -9223372036854775808≤s.qd∧s.qd≤9223372036854775807) (hxb: -9223372036854775808≤s.xb∧s.xb≤9223372036854775807) (hyb: -9223372036854775808≤s.yb∧s.yb≤9223372036854775807) (hzb: -9223372036854775808≤s.zb∧s.zb≤9223372036854775807) (hra: -9223372036854775808≤s.ra∧s.ra≤9223372036854775807) (hrb: -9223372036854775808≤s.rb∧s.rb≤9223372036854775807) (hrc: -9223372036854775808≤s.rc∧s.rc≤9223372036854775807) (hrd: -9223372036854775808≤s.rd∧s.rd≤9223372036854775807) (h64r: -9223372036854775808≤r∧r≤9223372036854775807):Con Tryz.prog 9 [.agg #[.int .i64 (s.fi),.int .i64 (s.st),.int .i64 (s.ta),.int .i64 (s.xa),.int .i64 (s.ya),.int .i64 (s.za),.int .i64 (s.qa),.int .i64 (s.qb),.int .i64 (s.qc),.int .i64 (s.qd),.int .i64 (s.tb),.int .i64 (s.xb),.int .i64 (s.yb),.int .i64 (s.zb),.int .i64 (s.ra),.int .i64 (s.rb),.int .i64 (s.rc),.int .i64 (s.rd)],.int .i64 r] [] [sgF] (Y:=Unit) (fun y=>True) (fun y=> .bool true) (fun y=>[]) (fun y=>[]):=by
 refine zw Tryz.func9 rfl rfl rfl (fun c=> ?_)
 show RunC _ _ _ _ _ [(0,.agg #[.int .i64 (s.fi),.int .i64 (s.st),.int .i64 (s.ta),.int .i64 (s.xa),.int .i64 (s.ya),.int .i64 (s.za),.int .i64 (s.qa),.int .i64 (s.qb),.int .i64 (s.qc),.int .i64 (s.qd),.int .i64 (s.tb),.int .i64 (s.xb),.int .i64 (s.yb),.int .i64 (s.zb),.int .i64 (s.ra),.int .i64 (s.rb),.int .i64 (s.rc),.int .i64 (s.rd)]),(1,.int .i64 r)] [] [sgF]
 refine zj<|zc<|zH rfl rfl (zba rfl rfl) (fun b1=> ?_)
 refine e_p (zh rfl)<|zk<|zg<|zj<|zj<|zc<|zR rfl rfl (.n) ce11 (zjf) (.c (j:=0) rfl .n)<|e_p (zec rfl)<|zk<|zg<|zua rfl rfl<|zx<|zg<|zj<|zc<|e_ru (ze 0 ty29 rfl rfl (.t8 (.t8 (.t2 .nil))))<|e_mv rfl<|zR rfl rfl (.c rfl (.c rfl .n)) ce32 (zsf (s:=s) (r:=r) (hfi:=ass) (hst:=ass) (hta:=ass) (htb:=ass) (hxa:=ass) (hya:=ass) (hza:=ass) (hqa:=ass) (hqb:=ass) (hqc:=ass) (hqd:=ass) (hxb:=ass) (hyb:=ass) (hzb:=ass) (hra:=ass) (hrb:=ass) (hrc:=ass) (hrd:=ass) (hr64:=ass)) (.n)<|e_mv rfl<|e_p (zy rfl rfl)<|e_p (zy rfl rfl)<|e_p (zh rfl)<|e_p (zh rfl)<|zk<|zg<|zj ?_
 have e2:(if Sh.chk s 1=0 then (if 0≤r∧r<64 then 0 else 2) else Sh.chk s 1:Int)=Sh.tc s r:=by rfl
 rw [e2]
 refine zc<|e_ru (ze 0 ty29 rfl rfl (.t8 (.t8 (.t2 .nil))))<|e_mv rfl<|zE rfl rfl (.c rfl (.c rfl .n)) ce26 (zEf (s:=s) (r:=r) (hfi:=ass) (hst:=ass) (hta:=ass) (htb:=ass) (hxa:=ass) (hya:=ass) (hza:=ass) (hqa:=ass) (hqb:=ass) (hqc:=ass) (hqd:=ass) (hxb:=ass) (hyb:=ass) (hzb:=ass) (hra:=ass) (hrb:=ass) (hrc:=ass) (hrd:=ass) (h64r:=ass)) (.n) ?_
 rintro ⟨w13,w24,w35,w46,w57,w68⟩ hph
 dsimp only [aq,nq,cq]
 replace hph:Sh.Pc s r≠0→w13=wz∧w24=wz∧w35=wz∧w46=wz∧w57=wz∧w68=wz:=hph
 refine e_mv rfl<|e_p (zy rfl rfl)<|e_p (zy rfl rfl)<|e_p (zy rfl rfl)<|zH rfl rfl (zo zr54 rfl) (fun b9=> ?_)
 refine zH rfl rfl (zo zr25 rfl) (fun b10=> ?_)
 refine zl 1 rfl rfl rfl rfl rfl sz54 rfl (.t8 (.t4 .nil)) (.s .z)<|zl 0 rfl rfl rfl rfl rfl sz25 rfl (.t4 .nil) .z<|e_p (zh rfl)<|zk<|zg<|zj<|zc<|e_ru (ze 2 ty29 rfl rfl (.t8 (.t8 (.t2 .nil))))<|zR rfl rfl (.c rfl (.c rfl .n)) ce13 (zGe (s:=s) (n:=1) (hfi:=ass) (hst:=ass) (hta:=ass) (htb:=ass) (hxa:=ass) (hya:=ass) (hza:=ass) (hqa:=ass) (hqb:=ass) (hqc:=ass) (hqd:=ass) (hxb:=ass) (hyb:=ass) (hzb:=ass) (hra:=ass) (hrb:=ass) (hrc:=ass) (hrd:=ass)) (.n)<|e_p (zh rfl)<|zk<|zg<|zDa (X:=Unit) (fun x=>True) (fun x=>[(10,.int .i64 (Sh.tc s r)),(9,.int .i64 (Sh.Pc s r)),(8,.pointer (some ⟨b10,0,none⟩)),(7,.pointer (some ⟨b9,0,none⟩)),(6,.int .i64 (Sh.tc s r)),(5,.int .i64 (if (Sh.tc s r)=0 then Sh.tm s r else 0)),(2,.pointer (some ⟨b1,0,none⟩)),(1,.int .i64 r)]) (fun x=>[boxA b10 25 [.int .i64 ((Sh.Pq s r).1),.int .i64 ((Sh.Pq s r).2.1),.int .i64 ((Sh.Pq s r).2.2.1),.int .i64 ((Sh.Pq s r).2.2.2)],boxA b9 54 (cw [w13,w24,w35,w46,w57,w68]),boxA b1 29 (cS s)]) (fun x=>[qF (decide (Sh.Pc s r=0)) w13 w24 ((Sh.Pp s r).1),qF (decide (Sh.Pc s r=0)) w35 w46 ((Sh.Pp s r).2.1),qF (decide (Sh.Pc s r=0)) w57 w68 ((Sh.Pp s r).2.2),sgF]) ?_ ?_
 ·
  refine zDa (X:=Unit) (fun x=>True) (fun x=>[(38,.bool (decide ((Sh.chk s 1=0)∧((r<0)∨(64≤r))))),(10,.int .i64 (Sh.chk s 1)),(9,.int .i64 (Sh.Pc s r)),(8,.pointer (some ⟨b10,0,none⟩)),(7,.pointer (some ⟨b9,0,none⟩)),(6,.int .i64 (Sh.tc s r)),(5,.int .i64 (if (Sh.tc s r)=0 then Sh.tm s r else 0)),(2,.pointer (some ⟨b1,0,none⟩)),(1,.int .i64 r)]) (fun x=>[boxA b10 25 [.int .i64 ((Sh.Pq s r).1),.int .i64 ((Sh.Pq s r).2.1),.int .i64 ((Sh.Pq s r).2.2.1),.int .i64 ((Sh.Pq s r).2.2.2)],boxA b9 54 (cw [w13,w24,w35,w46,w57,w68]),boxA b1 29 (cS s)]) (fun x=>[qF (decide (Sh.Pc s r=0)) w13 w24 ((Sh.Pp s r).1),qF (decide (Sh.Pc s r=0)) w35 w46 ((Sh.Pp s r).2.1),qF (decide (Sh.Pc s r=0)) w57 w68 ((Sh.Pp s r).2.2),sgF]) ?_ ?_
  ·
   refine zc<|e_mv rfl<|e_p (zIa rfl rfl)<|zia rfl rfl (zma rfl) (fun h11=> ?_) (fun h11=> ?_)
   ·
    refine e_mv rfl<|e_p (zV rfl rfl)<|zia rfl rfl (zma rfl) (fun h12=> ?_) (fun h12=> ?_)
    ·
     refine e_no<|e_no<|e_p (zI rfl rfl)<|e_p (zI rfl rfl)<|zk ?_
     exact zha () (show True from by first|trivial|omega|simp_all) ((.e rfl (congrArg Value.bool cbu) (.of rfl)):SubM _ _) (ho:=((.of [0,0,0] rfl):PickO _ _ _)) ((.of [0,1,2,3] rfl):SelR _ _ _)
    ·
     refine e_mv rfl<|e_p (zsb rfl rfl)<|e_p (zI rfl rfl)<|e_p (zI rfl rfl)<|zk ?_
     exact zha () (show True from by first|trivial|omega|simp_all) ((.e rfl (congrArg Value.bool cbu) (.of rfl)):SubM _ _) (ho:=((.of [0,0,0] rfl):PickO _ _ _)) ((.of [0,1,2,3] rfl):SelR _ _ _)
   ·
    refine e_no<|e_no<|e_no<|e_no<|e_no<|e_no<|e_p (zI rfl rfl)<|zk ?_
    exact zha () (show True from by first|trivial|omega|simp_all) ((.e rfl (congrArg Value.bool cbu) (.of rfl)):SubM _ _) (ho:=((.of [0,0,0] rfl):PickO _ _ _)) ((.of [0,1,2,3] rfl):SelR _ _ _)
  ·
   rintro ⟨⟩ -
   try dsimp only [cw]
   refine zP rfl (fun h38=> ?_) (fun h38=> ?_)
   ·
    refine zc<|e_p (zh rfl)<|zk ?_
    exact zha () (show True from by first|trivial|omega|simp_all) ((.e rfl (congrArg (Value.int .i64) (by unfold Sh.tc;rw [if_pos h38.1,if_neg (by have h9:=h38.2;omega)])) (.of rfl)):SubM _ _) (ho:=((.of [0,0,0] rfl):PickO _ _ _)) ((.of [0,1,2,3] rfl):SelR _ _ _)
   ·
    refine zx ?_
    exact zha () (show True from by first|trivial|omega|simp_all) ((.e rfl (congrArg (Value.int .i64) (by unfold Sh.tc;by_cases k:Sh.chk s 1=0;rw [if_pos k,if_pos (by have h9:¬(r<0∨64≤r):=fun e=>h38 ⟨k,e⟩;omega),k];rw [if_neg k])) (.of rfl)):SubM _ _) (ho:=((.of [0,0,0] rfl):PickO _ _ _)) ((.of [0,1,2,3] rfl):SelR _ _ _)
 ·
  rintro ⟨⟩ -
  try dsimp only [cw]
  refine zj<|zc<|e_mv rfl<|e_p (zh rfl)<|zk<|zg<|zDa (X:=Unit) (fun x=>True) (fun x=>[(11,.int .i64 (Sh.Pc s r)),(10,.int .i64 (Sh.tc s r)),(9,.int .i64 (Sh.Pc s r)),(8,.pointer (some ⟨b10,0,none⟩)),(7,.pointer (some ⟨b9,0,none⟩)),(6,.int .i64 (Sh.tc s r)),(5,.int .i64 (if (Sh.tc s r)=0 then Sh.tm s r else 0)),(2,.pointer (some ⟨b1,0,none⟩)),(1,.int .i64 r)]) (fun x=>[boxA b10 25 [.int .i64 ((Sh.Pq s r).1),.int .i64 ((Sh.Pq s r).2.1),.int .i64 ((Sh.Pq s r).2.2.1),.int .i64 ((Sh.Pq s r).2.2.2)],boxA b9 54 (cw [w13,w24,w35,w46,w57,w68]),boxA b1 29 (cS s)]) (fun x=>[qF (decide (Sh.Pc s r=0)) w13 w24 ((Sh.Pp s r).1),qF (decide (Sh.Pc s r=0)) w35 w46 ((Sh.Pp s r).2.1),qF (decide (Sh.Pc s r=0)) w57 w68 ((Sh.Pp s r).2.2),sgF]) ?_ ?_
  ·
   refine zDa (X:=Unit) (fun x=>True) (fun x=>[(48,.bool (decide (((Sh.tc s r)=0)∧((Sh.rot s r).1=0∧(Sh.rot s r).2.1=0∧(Sh.rot s r).2.2.1=0∧(Sh.rot s r).2.2.2=0)))),(11,.int .i64 (Sh.tc s r)),(10,.int .i64 (Sh.tc s r)),(9,.int .i64 (Sh.Pc s r)),(8,.pointer (some ⟨b10,0,none⟩)),(7,.pointer (some ⟨b9,0,none⟩)),(6,.int .i64 (Sh.tc s r)),(5,.int .i64 (if (Sh.tc s r)=0 then Sh.tm s r else 0)),(2,.pointer (some ⟨b1,0,none⟩)),(1,.int .i64 r)]) (fun x=>[boxA b10 25 [.int .i64 ((Sh.Pq s r).1),.int .i64 ((Sh.Pq s r).2.1),.int .i64 ((Sh.Pq s r).2.2.1),.int .i64 ((Sh.Pq s r).2.2.2)],boxA b9 54 (cw [w13,w24,w35,w46,w57,w68]),boxA b1 29 (cS s)]) (fun x=>[qF (decide (Sh.Pc s r=0)) w13 w24 ((Sh.Pp s r).1),qF (decide (Sh.Pc s r=0)) w35 w46 ((Sh.Pp s r).2.1),qF (decide (Sh.Pc s r=0)) w57 w68 ((Sh.Pp s r).2.2),sgF]) ?_ ?_
   ·
    refine zc<|e_mv rfl<|e_p (zIa rfl rfl)<|zia rfl rfl (zma rfl) (fun g42=> ?_) (fun g42=> ?_)
    ·
     refine e_ru (ze 2 ty29 rfl rfl (.t8 (.t8 (.t2 .nil))))<|e_mv rfl<|zR rfl rfl (.c rfl (.c rfl .n)) ce33 (zDd (s:=s) (r:=r) (hok:=by exact (Sh.chk_ok (Sh.tc_zero g42).1).1) (hr:=by have h9:=(Sh.tc_zero g42).2;omega)) (.n)<|e_p (zu zr25 rfl Tryz.underlying25 (.c sz3 (.c sz3 (.c sz3 (.c sz3 .n)))) .n .n)<|e_p (zPa (p:=(Sh.rot s r).1=0∧(Sh.rot s r).2.1=0∧(Sh.rot s r).2.2.1=0∧(Sh.rot s r).2.2.2=0) kr rfl rfl (zOa Tryz.underlying25 kr (zoa dd ty3 rfl rfl (zna Tryz.underlying3) (zoa dd ty3 rfl rfl (zna Tryz.underlying3) (zoa dd ty3 rfl rfl (zna Tryz.underlying3) (zoa dd ty3 rfl rfl (zna Tryz.underlying3) zxb))))) (by simp [Bool.decide_and]))<|e_p (zI rfl rfl)<|zk ?_
     exact zha () (show True from by first|trivial|omega|simp_all) ((.e rfl (congrArg Value.bool cbu) (.of rfl)):SubM _ _) (ho:=((.of [0,0,0] rfl):PickO _ _ _)) ((.of [0,1,2,3] rfl):SelR _ _ _)
    ·
     refine e_no<|e_no<|e_no<|e_no<|e_no<|e_p (zI rfl rfl)<|zk ?_
     exact zha () (show True from by first|trivial|omega|simp_all) ((.e rfl (congrArg Value.bool cbu) (.of rfl)):SubM _ _) (ho:=((.of [0,0,0] rfl):PickO _ _ _)) ((.of [0,1,2,3] rfl):SelR _ _ _)
   ·
    rintro ⟨⟩ -
    try dsimp only [cw]
    refine zP rfl (fun h48=> ?_) (fun h48=> ?_)
    ·
     refine zc<|e_p (zh rfl)<|zk ?_
     exact zha () (show True from by first|trivial|omega|simp_all) ((.e rfl (congrArg (Value.int .i64) (Sh.Pc_yes h48)) (.of rfl)):SubM _ _) (ho:=((.of [0,0,0] rfl):PickO _ _ _)) ((.of [0,1,2,3] rfl):SelR _ _ _)
    ·
     refine zx ?_
     exact zha () (show True from by first|trivial|omega|simp_all) ((.e rfl (congrArg (Value.int .i64) (Sh.Pc_no h48)) (.of rfl)):SubM _ _) (ho:=((.of [0,0,0] rfl):PickO _ _ _)) ((.of [0,1,2,3] rfl):SelR _ _ _)
  ·
   rintro ⟨⟩ -
   try dsimp only [cw]
   refine zj<|zDa (X:=Unit) (fun x=>True) (fun x=>[(79,.bool false),(9,.int .i64 (Sh.Pc s r)),(8,.pointer (some ⟨b10,0,none⟩)),(7,.pointer (some ⟨b9,0,none⟩)),(2,.pointer (some ⟨b1,0,none⟩)),(1,.int .i64 r)]) (fun x=>[boxA b10 25 [.int .i64 ((Sh.Pq s r).1),.int .i64 ((Sh.Pq s r).2.1),.int .i64 ((Sh.Pq s r).2.2.1),.int .i64 ((Sh.Pq s r).2.2.2)],boxA b9 54 (cw [w13,w24,w35,w46,w57,w68]),boxA b1 29 (cS s)]) (fun x=>[qF (decide (Sh.Pc s r=0)) w13 w24 ((Sh.Pp s r).1),qF (decide (Sh.Pc s r=0)) w35 w46 ((Sh.Pp s r).2.1),qF (decide (Sh.Pc s r=0)) w57 w68 ((Sh.Pp s r).2.2),sgF]) ?_ ?_
   ·
    refine zc<|e_mv rfl<|e_mv rfl<|e_p (zhb rfl rfl) ?_
    rw [show (decide ((Sh.tc s r)≠(Sh.tc s r)))=false from by exact decide_eq_false (fun k=>k rfl)]
    refine e_mv rfl<|e_mv rfl<|e_mv rfl<|e_p (zhb rfl rfl) ?_
    rw [show (decide (Sh.Pc s r≠(Sh.Pc s r)))=false from by exact decide_eq_false (fun k=>k rfl)]
    refine e_p (zI rfl rfl)<|e_mv rfl<|e_mv rfl<|e_p (zhb rfl rfl)<|zia rfl rfl (zma rfl) (fun hT=> ?_) (fun hT=> ?_)
    ·
     refine e_mv rfl<|e_p (zhb rfl rfl) ?_
     rw [show (decide (((if (Sh.tc s r)=0 then Sh.tm s r else 0):Int)≠0))=false from by exact decide_eq_false (fun k=>k (if_neg hT))]
     refine e_p (zI rfl rfl)<|e_p (zI rfl rfl)<|e_mv rfl<|e_mv rfl<|e_p (zIa rfl rfl) ?_
     rw [show (decide ((Sh.tc s r)=0))=false from by exact decide_eq_false hT]
     refine e_mv rfl<|e_no<|e_no<|e_no<|e_no<|e_no<|e_no<|e_no<|e_no<|e_no<|e_p (zI rfl rfl)<|e_p (zI rfl rfl)<|zk ?_
     exact zha () (show True from by first|trivial|omega|simp_all) ((.of rfl):SubM _ _) (ho:=((.of [0,0,0] rfl):PickO _ _ _)) ((.of [0,1,2,3] rfl):SelR _ _ _)
    ·
     refine e_no<|e_no<|e_p (zI rfl rfl)<|e_p (zI rfl rfl)<|e_mv rfl<|e_mv rfl<|e_p (zIa rfl rfl) ?_
     rw [show (decide ((Sh.tc s r)=0))=true from by exact decide_eq_true (Decidable.not_not.1 hT)]
     refine e_mv rfl<|e_mv rfl<|e_p (zf Tryz.underlying29 rfl sz3 rfl rfl)<|e_ru (zd 2 ty3 rfl rfl rfl)<|e_mv rfl<|e_p (zf Tryz.underlying29 rfl sz3 rfl rfl)<|e_ru (zd 2 ty3 rfl rfl rfl) ?_
     have hT0:=Decidable.not_not.1 hT
     obtain ⟨hok,-,hlt,hnd⟩:=Sh.chk_ok (Sh.tc_zero hT0).1
     have hr0:=(Sh.tc_zero hT0).2
     have hn:=hok.n
     have htm:=Sh.tm_b hok (r:=r) om
     have hrs: -(64*1073741824)≤r*s.st∧r*s.st≤64*1073741824:=by have h9:=Sh.mul_b (x:=r) (y:=s.st) (m:=64) (n:=1073741824) om om;omega
     refine e_p (zGa (z:=(r*s.st)) rfl rfl (w64 om))<|e_p (zJ (z:=(s.fi+(r*s.st))) rfl rfl (w64 om))<|e_p (zhb rfl rfl) ?_
     rw [show (decide (((if (Sh.tc s r)=0 then Sh.tm s r else 0):Int)≠(s.fi+(r*s.st))))=false from by exact decide_eq_false (fun k=>k (if_pos hT0))]
     refine e_p (zI rfl rfl)<|e_p (zI rfl rfl)<|zk ?_
     exact zha () (show True from by first|trivial|omega|simp_all) ((.of rfl):SubM _ _) (ho:=((.of [0,0,0] rfl):PickO _ _ _)) ((.of [0,1,2,3] rfl):SelR _ _ _)
   ·
    rintro ⟨⟩ -
    try dsimp only [cw]
    refine zua rfl rfl<|zx<|zg<|zj<|zj<|zc<|e_mv rfl<|e_p (zhb rfl rfl)<|zk<|zg<|zP rfl (fun hP=> ?_) (fun hP=> ?_)
    ·
     have hz9:=hph hP
     have hy9:Sh.Pq s r=(0,0,0,0):=if_neg hP
     refine zj<|zc<|e_ru (ze 0 ty25 rfl rfl (.t4 .nil))<|e_p (zu zr25 rfl Tryz.underlying25 (.c sz3 (.c sz3 (.c sz3 (.c sz3 .n)))) .n .n)<|e_p (zPa (p:=(Sh.Pq s r).1=0∧(Sh.Pq s r).2.1=0∧(Sh.Pq s r).2.2.1=0∧(Sh.Pq s r).2.2.2=0) kr rfl rfl (zOa Tryz.underlying25 kr (zoa dd ty3 rfl rfl (zna Tryz.underlying3) (zoa dd ty3 rfl rfl (zna Tryz.underlying3) (zoa dd ty3 rfl rfl (zna Tryz.underlying3) (zoa dd ty3 rfl rfl (zna Tryz.underlying3) zxb))))) (by simp [Bool.decide_and])) ?_
     rw [show (decide ((Sh.Pq s r).1=0∧(Sh.Pq s r).2.1=0∧(Sh.Pq s r).2.2.1=0∧(Sh.Pq s r).2.2.2=0))=true from by exact decide_eq_true (by rw [hy9];exact ⟨rfl,rfl,rfl,rfl⟩)]
     refine e_mv rfl<|e_p (zi (i:=0) Tryz.underlying54 sz44 rfl rfl dd rfl)<|e_ru (ze 1 ty44 rfl rfl (.t4 .nil))<|zR rfl rfl (.c rfl .n) ce34 (zFc (u1:=w13) (v1:=w24)) (.n) ?_
     rw [show (decide (Wd.zz w13 w24))=true from by exact decide_eq_true (by rw [hz9.1,hz9.2.1];exact Wd.zz_wz)]
     refine e_p (zI rfl rfl)<|e_mv rfl<|e_p (zi (i:=1) Tryz.underlying54 sz44 rfl rfl dd rfl)<|e_ru (ze 1 ty44 rfl rfl (.s4 (.t4 .nil)))<|zR rfl rfl (.c rfl .n) ce34 (zFc (u1:=w35) (v1:=w46)) (.n) ?_
     rw [show (decide (Wd.zz w35 w46))=true from by exact decide_eq_true (by rw [hz9.2.2.1,hz9.2.2.2.1];exact Wd.zz_wz)]
     refine e_p (zI rfl rfl)<|e_mv rfl<|e_p (zi (i:=2) Tryz.underlying54 sz44 rfl rfl dd rfl)<|e_ru (ze 1 ty44 rfl rfl (.s8 (.t4 .nil)))<|zR rfl rfl (.c rfl .n) ce34 (zFc (u1:=w57) (v1:=w68)) (.n) ?_
     rw [show (decide (Wd.zz w57 w68))=true from by exact decide_eq_true (by rw [hz9.2.2.2.2.1,hz9.2.2.2.2.2];exact Wd.zz_wz)]
     refine e_p (zI rfl rfl)<|e_p (zh rfl)<|zk<|zg<|zO<|zt ?_
     exact zL Tryz.results9 () trivial (zB rfl) rfl (ho:=(.n:PickO _ _ _)) (.n:SelR _ _ _)
    ·
     have hP0:=Decidable.not_not.1 hP
     obtain ⟨hc0,hin,hz4⟩:=Sh.Pc_zero hP0
     obtain ⟨hok,-,hlt,hnd⟩:=Sh.chk_ok hc0
     have hr3:0≤r∧r≤64:=⟨hin.1,Int.le_of_lt hin.2⟩
     have hpq:=Sh.pos_hq hok hr3
     have hy9:Sh.Pq s r=Sh.rot s r:=if_pos hP0
     have e13:(decide (Sh.Pc s r=0))=true:=by exact decide_eq_true hP0
     rw [e13]
     have e14:Sh.Pp s r=Sh.pos s r:=by exact if_pos hP0
     rw [e14]
     refine zx<|zg<|zj<|zQb 1 rfl (.s .z)<|zGf (slF rQ (some ⟨b9,0,none⟩) 3 [(Sh.pos s r).1,(Sh.pos s r).2.1,(Sh.pos s r).2.2]) (fun g h=>sl3_of 0 1 2 3 rfl rfl rfl rfl g h)<|zT (OW:=[]) (O:=[boxA b10 25 [.int .i64 ((Sh.Pq s r).1),.int .i64 ((Sh.Pq s r).2.1),.int .i64 ((Sh.Pq s r).2.2.1),.int .i64 ((Sh.Pq s r).2.2.2)],emA,boxA b1 29 (cS s)]) 100000 mixed (.then .ret) kr<|e_u 0 rfl rfl (ze 0 ty25 rfl rfl (.t4 .nil))<|e_u 1 rfl rfl (ze 2 ty29 rfl rfl (.t8 (.t8 (.t2 .nil))))<|e_dm 2 rfl rfl rfl<|e_one 3 (zJa rfl rfl rfl rfl (.c rfl (.c rfl .n)) ce33 (zDd (s:=s) (r:=r) (hok:=by exact hok) (hr:=by exact hr3)) (.n) ?_)
     refine e_pv 4 rfl rfl (zPa (p:=(Sh.Pq s r).1=(Sh.rot s r).1∧(Sh.Pq s r).2.1=(Sh.rot s r).2.1∧(Sh.Pq s r).2.2.1=(Sh.rot s r).2.2.1∧(Sh.Pq s r).2.2.2=(Sh.rot s r).2.2.2) kr rfl rfl (zOa Tryz.underlying25 kr (zoa dd ty3 rfl rfl (zna Tryz.underlying3) (zoa dd ty3 rfl rfl (zna Tryz.underlying3) (zoa dd ty3 rfl rfl (zna Tryz.underlying3) (zoa dd ty3 rfl rfl (zna Tryz.underlying3) zxb))))) (by simp [Bool.decide_and])) ?_
     rw [show (decide ((Sh.Pq s r).1=(Sh.rot s r).1∧(Sh.Pq s r).2.1=(Sh.rot s r).2.1∧(Sh.Pq s r).2.2.1=(Sh.rot s r).2.2.1∧(Sh.Pq s r).2.2.2=(Sh.rot s r).2.2.2))=true from by exact decide_eq_true (by rw [hy9];exact ⟨rfl,rfl,rfl,rfl⟩)]
     refine e_dm 5 rfl rfl rfl<|e_pv 6 rfl rfl (zMc Tryz.underlying54 sz44 rfl)<|e_u 7 rfl rfl (ze 2 ty29 rfl rfl (.t8 (.t8 (.t2 .nil))))<|e_dm 8 rfl rfl rfl<|e_one 9 (zm rfl rfl rfl rfl (.c rfl (.c rfl .n)) ce36 (zFd (s:=s) (r:=r) (hok:=by exact hok) (hr:=by exact hr3) (hlt:=by exact hlt)) (.n) ?_)
     rintro p215 -
     dsimp only [aq,nq,cq]
     refine e_one 10 (zJa rfl rfl rfl rfl (.c rfl (.c rfl .n)) ce35 (zGd (p1:=some ⟨b9,0,none⟩) (n1:=3) (c1:=3) (l1:=[(Sh.pos s r).1,(Sh.pos s r).2.1,(Sh.pos s r).2.2]) (p2:=p215) (n2:=3) (c2:=3) (l2:=[(Sh.pos s r).1,(Sh.pos s r).2.1,(Sh.pos s r).2.2]) (hn1:=by rfl) (hn2:=by rfl) (hl:=by exact Sh.hq3 (k:=13) dd hpq hpq)) (.c (j:=1) rfl (.c (j:=0) rfl .n)) ?_)
     rw [show (decide (([(Sh.pos s r).1,(Sh.pos s r).2.1,(Sh.pos s r).2.2])=([(Sh.pos s r).1,(Sh.pos s r).2.1,(Sh.pos s r).2.2])))=true from by exact decide_eq_true rfl]
     refine e_pv 11 rfl rfl (zI rfl rfl)<|e_pv 12 rfl rfl (zh rfl)<|zQ kr<|zg<|zO ?_
     exact zL Tryz.results9 () trivial (zB rfl) rfl (ho:=(.n:PickO _ _ _)) (.n:SelR _ _ _)
end Go.Proofs.YtjeahiahjgifgaaGreatDoor.Sp
