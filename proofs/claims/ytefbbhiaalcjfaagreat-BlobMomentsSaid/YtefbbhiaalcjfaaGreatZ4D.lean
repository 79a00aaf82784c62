/- Lemmas on the walk and plain lemmas that the claim of this folder uses; each states its own conditions. Lines were printed by a program of ours. -/
import Derived.Test.YtefbbhiaalcjfaaGreatZ4C
set_option linter.unusedVariables false
set_option linter.unusedSimpArgs false
set_option linter.unusedSectionVars false
namespace Go.Proofs.YtefbbhiaalcjfaaGreat.Sp
open Go
set_option linter.unusedVariables false
set_option maxRecDepth 100000
set_option maxHeartbeats 1000000
theorem zTd {x1:Int} {x2:Int} {p1:Option Addr} {c1:Nat} {p2:Option Addr} {c2:Nat} (hb1:Big.ln x1≤1099511627776) (hb2:Big.ln x2≤1099511627776) (hy:x2≠0):Con Tryz.prog 93 [.agg #[.bool (decide (x1<0)),.slice p1 ((Big.digs ((x1).natAbs)).length) c1],.agg #[.bool (decide (x2<0)),.slice p2 ((Big.digs ((x2).natAbs)).length) c2]] [] [slF (rI .u32) p1 c1 (Big.digs ((x1).natAbs)),slF (rI .u32) p2 c2 (Big.digs ((x2).natAbs))] (Y:=(Option Addr)×Nat×(Option Addr)×Nat) (fun y=>True) (fun y=> .tuple #[.agg #[.bool (decide ((Big.fq x1 x2)<0)),.slice (y.1) ((Big.digs ((Big.fq x1 x2).natAbs)).length) (y.2.1)],.agg #[.bool (decide ((Big.fr x1 x2)<0)),.slice (y.2.2.1) ((Big.digs ((Big.fr x1 x2).natAbs)).length) (y.2.2.2)],.int .i64 0]) (fun y=>[]) (fun y=>[slF (rI .u32) (y.1) (y.2.1) (Big.digs ((Big.fq x1 x2).natAbs)),slF (rI .u32) (y.2.2.1) (y.2.2.2) (Big.digs ((Big.fr x1 x2).natAbs))]):=by
 refine zr Tryz.func93 rfl rfl rfl (fun c=> ?_)
 show RunC _ _ _ _ _ [(0,.agg #[.bool (decide (x1<0)),.slice p1 ((Big.digs ((x1).natAbs)).length) c1]),(1,.agg #[.bool (decide (x2<0)),.slice p2 ((Big.digs ((x2).natAbs)).length) c2])] [] [slF (rI .u32) p1 c1 (Big.digs ((x1).natAbs)),slF (rI .u32) p2 c2 (Big.digs ((x2).natAbs))]
 refine zba 0 rfl (fun hL0=> ?_)
 refine zba 1 rfl (fun hL1=> ?_)
 unfold Big.ln at hb1 hb2
 have hd1:=Nat.div_le_self x1.natAbs x2.natAbs
 have hd2:=Nat.mod_lt x1.natAbs (show 0<x2.natAbs by omega)
 have hl1:=Big.ln_mono' hd1
 have hl2:=Big.ln_mono' (Nat.le_of_lt hd2)
 refine zi<|zc<|zJ rfl rfl (zT rfl rfl) (fun b1=> ?_)
 refine zJ rfl rfl (zT rfl rfl) (fun b2=> ?_)
 refine zJ rfl rfl (zu zr40 rfl) (fun b3=> ?_)
 refine zJ rfl rfl (zu zr40 rfl) (fun b4=> ?_)
 refine r_pv rfl rfl (zd rfl)<|zj<|zf<|zi<|zaa (OW:=[]) (O:=[boxA b4 40 [.bool false,.slice none 0 0],boxA b3 40 [.bool false,.slice none 0 0],boxA b2 40 [.bool (decide (x2<0)),.slice p2 ((Big.digs ((x2).natAbs)).length) c2],boxA b1 40 [.bool (decide (x1<0)),.slice p1 ((Big.digs ((x1).natAbs)).length) c1]]) 100000 mixed (.then .ret) (by kernel_rfl)<|d_u 0 rfl rfl (by kernel_rfl) (by kernel_rfl) rfl rfl (zg 3 ty40 rfl rfl (.take (.take .nil)))<|d_u 2 rfl rfl (by kernel_rfl) (by kernel_rfl) rfl rfl (zg 2 ty40 rfl rfl (.take (.take .nil)))<|zG 1 (by kernel_rfl) (zw rfl rfl rfl rfl (.c rfl .n) ce96 (zxb (z:=x1) (p:=p1) (cap:=c1)) (.c (j:=0) rfl .n) ?_)
 rintro ⟨p25,c26⟩ -
 dsimp only [List.append_eq,List.nil_append,List.cons_append]
 refine zG 3 (by kernel_rfl) (zw rfl rfl rfl rfl (.c rfl .n) ce96 (zxb (z:=x2) (p:=p2) (cap:=c2)) (.c (j:=2) rfl .n) ?_)
 rintro ⟨p27,c28⟩ -
 dsimp only [List.append_eq,List.nil_append,List.cons_append]
 refine d_pv 4 rfl rfl (by kernel_rfl) (by kernel_rfl) rfl rfl (zd rfl)<|d_pv 5 rfl rfl (by kernel_rfl) (by kernel_rfl) rfl rfl (zd rfl)<|zY (by kernel_rfl)<|zf<|zi<|zi<|zc<|r_pv rfl rfl (zb rfl)<|r_pv rfl rfl (zR Tryz.underlying38 rfl)<|r_pv rfl rfl (zza rfl rfl)<|zj<|zf<|zK rfl (fun h9=> ?_) (fun h9=> ?_)
 ·
  exact absurd (Big.len_digs_nil.1 (show (Big.digs x2.natAbs).length=0 by omega)) (by omega)
 ·
  refine zD<|zf<|zi<|zc<|r_pv rfl rfl (zb rfl)<|r_pv rfl rfl (zb rfl)<|zx rfl rfl (.c rfl (.c rfl .n)) ce116 (zme (a:=(x1).natAbs) (b:=(x2).natAbs) (p1:=p25) (c1:=c26) (p2:=p27) (c2:=c28) (hb1:=by first|rfl|assumption|omega|(decide +kernel)) (hb2:=by first|rfl|assumption|omega|(decide +kernel)) (hb0:=by first|rfl|assumption|omega|(decide +kernel))) (.c (j:=1) rfl (.c (j:=0) rfl .n)) ?_
  rintro ⟨p310,c311,p412,c413⟩ -
  dsimp only [List.append_eq,List.nil_append,List.cons_append]
  refine r_pv rfl rfl (zb rfl)<|r_pv rfl rfl (zm rfl rfl)<|r_pv rfl rfl (zm rfl rfl)<|r_pv rfl rfl (zd rfl)<|r_pv rfl rfl (zd rfl)<|zj<|zf<|zi<|zc<|r_pv rfl rfl (zb rfl)<|zx rfl rfl (.c rfl .n) ce114 (zjd (a:=((x1).natAbs)%((x2).natAbs)) (p:=p412) (cap:=c413) (hb:=by first|rfl|assumption|omega|(decide +kernel))) (.c (j:=1) rfl .n) ?_
  rintro ⟨p214,c215⟩ -
  dsimp only [List.append_eq,List.nil_append,List.cons_append]
  refine r_pv rfl rfl (zd rfl)<|zj<|zf<|zi<|zi<|zc<|r_pv rfl rfl (zb rfl)<|r_pv rfl rfl (zR Tryz.underlying38 rfl)<|r_pv rfl rfl (zBa rfl rfl)<|zO rfl rfl (zb rfl) (fun hpos=> ?_) (fun hpos=> ?_)
  ·
   refine r_pv rfl rfl (zh Tryz.underlying40 rfl sz4 rfl rfl)<|r_u rfl rfl (ze 3 ty4 rfl rfl rfl)<|r_pv rfl rfl (zh Tryz.underlying40 rfl sz4 rfl rfl)<|r_u rfl rfl (ze 2 ty4 rfl rfl rfl)<|r_pv rfl rfl (zMa Tryz.underlying4 rfl rfl)<|r_pv rfl rfl (zk rfl rfl)<|zj<|zf<|zK rfl (fun hadj=> ?_) (fun hadj=> ?_)
   ·
    have hsg:(decide (decide (x1<0)≠decide (x2<0)))=true:=decide_eq_true hadj
    have hr0:x1.natAbs%x2.natAbs≠0:=fun e=>by have h9:=hpos;rw [e,Big.digs_zero] at h9;exact absurd h9 (by decide)
    refine zc<|r_pv rfl rfl (zb rfl)<|zxa rfl rfl (zP (enc:=fun z:Int=>[.int .u32 z]) (ok:=InK .u32) (h1:=fun _=>rfl) (h2:=fun _=>rfl) (k:=1) Tryz.underlying38 inf105 rfl (by decide) (by decide) (by decide) (.c (x:=1) rfl rfl (fun _ _=>by exact zy.2 (by omega)) .n)) (fun b16 _=> ?_)
    refine zja 0 rfl .z ?_
    have e17:[1]=Big.digs 1:=by exact (Big.digs_one (s:=1) (by decide) (by decide)).symm
    rw [e17]
    have e18:(.slice (some ⟨b16,0,none⟩) 1 1:Value)= .slice (some ⟨b16,0,none⟩) ((Big.digs 1).length) 1:=by rfl
    rw [e18]
    refine zx rfl rfl (.c rfl (.c rfl .n)) ce117 (zDd (a:=((x1).natAbs) / ((x2).natAbs)) (b:=1) (p1:=p310) (c1:=c311) (p2:=some ⟨b16,0,none⟩) (c2:=1) (hb1:=by first|rfl|assumption|omega|(decide +kernel)) (hb2:=by first|rfl|assumption|omega|(decide +kernel))) (.c (j:=2) rfl (.c (j:=0) rfl .n)) ?_
    rintro ⟨p319,c320⟩ -
    dsimp only [List.append_eq,List.nil_append,List.cons_append]
    refine r_pv rfl rfl (zb rfl)<|r_pv rfl rfl (zb rfl)<|zx rfl rfl (.c rfl (.c rfl .n)) ce118 (zGc (a:=(x2).natAbs) (b:=(((x1).natAbs)%((x2).natAbs))) (p1:=p27) (c1:=c28) (p2:=p214) (c2:=c215) (hb1:=by first|rfl|assumption|omega|(decide +kernel)) (hb2:=by first|rfl|assumption|omega|(decide +kernel)) (hab:=by first|rfl|assumption|omega|(decide +kernel))) (.c (j:=5) rfl (.c (j:=2) rfl .n)) ?_
    rintro ⟨p321,c322⟩ -
    dsimp only [List.append_eq,List.nil_append,List.cons_append]
    refine r_pv rfl rfl (zd rfl)<|r_pv rfl rfl (zd rfl)<|zj<|zf<|zi<|zqa (.c (i:=2) rfl (.c (i:=1) rfl (.c (i:=0) rfl (.c (i:=0) rfl (.c (i:=0) rfl .n)))))<|zaa (OW:=[boxA b3 40 [.bool false,.slice none 0 0],boxA b4 40 [.bool false,.slice none 0 0]]) (O:=[emA,boxA b2 40 [.bool (decide (x2<0)),.slice p2 ((Big.digs ((x2).natAbs)).length) c2],boxA b1 40 [.bool (decide (x1<0)),.slice p1 ((Big.digs ((x1).natAbs)).length) c1]]) 11 mixed (.then .ret) (by kernel_rfl)<|d_pv 0 rfl rfl (by kernel_rfl) (by kernel_rfl) rfl rfl (zh Tryz.underlying40 rfl sz4 rfl rfl)<|d_uw 1 rfl rfl (by kernel_rfl) (by kernel_rfl) (by kernel_rfl) rfl rfl (ze 4 ty4 rfl rfl rfl)<|d_pv 2 rfl rfl (by kernel_rfl) (by kernel_rfl) rfl rfl (zh Tryz.underlying40 rfl sz4 rfl rfl)<|d_uw 3 rfl rfl (by kernel_rfl) (by kernel_rfl) (by kernel_rfl) rfl rfl (ze 3 ty4 rfl rfl rfl)<|d_pv 4 rfl rfl (by kernel_rfl) (by kernel_rfl) rfl rfl (zMa Tryz.underlying4 rfl rfl)<|d_pv 5 rfl rfl (by kernel_rfl) (by kernel_rfl) rfl rfl (zb rfl)<|d_pv 7 rfl rfl (by kernel_rfl) (by kernel_rfl) rfl rfl (zh Tryz.underlying40 rfl sz4 rfl rfl)<|d_uw 8 rfl rfl (by kernel_rfl) (by kernel_rfl) (by kernel_rfl) rfl rfl (ze 3 ty4 rfl rfl rfl)<|d_pv 9 rfl rfl (by kernel_rfl) (by kernel_rfl) rfl rfl (zb rfl)<|zG 6 (by kernel_rfl) (zw rfl rfl rfl rfl (.c rfl (.c rfl .n)) ce94 (zya (s:=decide (decide (x1<0)≠decide (x2<0))) (a:=(((x1).natAbs) / ((x2).natAbs))+1) (p:=p319) (cap:=c320)) (.c (j:=1) rfl .n) ?_)
    rintro ⟨p223,c224⟩ -
    dsimp only [List.append_eq,List.nil_append,List.cons_append]
    refine zG 10 (by kernel_rfl) (zw rfl rfl rfl rfl (.c rfl (.c rfl .n)) ce94 (zya (s:=decide (x2<0)) (a:=((x2).natAbs) - (((x1).natAbs)%((x2).natAbs))) (p:=p321) (cap:=c322)) (.c (j:=1) rfl .n) ?_)
    rintro ⟨p225,c226⟩ -
    dsimp only [List.append_eq,List.nil_append,List.cons_append]
    refine zG 11 (by kernel_rfl) (zz (by kernel_rfl) rfl rfl rfl rfl rfl sz40 rfl (.take (.take .nil)) ?_)
    refine zGa (zga (i:=1) rfl)<|zG 12 (by kernel_rfl) (zz (by kernel_rfl) rfl rfl rfl rfl rfl sz40 rfl (.take (.take .nil)) ?_)
    refine d_pv 13 rfl rfl (by kernel_rfl) (by kernel_rfl) rfl rfl (zd rfl)<|zY (by kernel_rfl)<|zf<|zI ?_
    have hz1:Big.sg (decide (decide (x1<0)≠decide (x2<0))) ((x1.natAbs / x2.natAbs+1:Nat):Int)=Big.fq x1 x2:=by rw [hsg];exact (Big.fq_odd hy hadj hr0).1
    have hz2:Big.sg (decide (x2<0)) ((x2.natAbs - x1.natAbs%x2.natAbs:Nat):Int)=Big.fr x1 x2:=(Big.fq_odd hy hadj hr0).2
    exact zRc Tryz.results93 (p223,c224,p225,c226) trivial (zq 1 ty40 rfl rfl (.take (.take .nil))) (zq 0 ty40 rfl rfl (.take (.take .nil))) (zt rfl) (by rw [hz1,hz2]) (ho:=(.n:PickO _ _ _)) ((.e (j:=1) rfl (by rw [hz1]) (.e (j:=0) rfl (by rw [hz2]) .n)):SelR _ _ _)
   ·
    refine zD<|zf<|zi<|zqa (.c (i:=1) rfl (.c (i:=0) rfl (.c (i:=0) rfl (.c (i:=0) rfl .n))))<|zaa (OW:=[boxA b3 40 [.bool false,.slice none 0 0],boxA b4 40 [.bool false,.slice none 0 0]]) (O:=[boxA b2 40 [.bool (decide (x2<0)),.slice p2 ((Big.digs ((x2).natAbs)).length) c2],boxA b1 40 [.bool (decide (x1<0)),.slice p1 ((Big.digs ((x1).natAbs)).length) c1]]) 11 mixed (.then .ret) (by kernel_rfl)<|d_pv 0 rfl rfl (by kernel_rfl) (by kernel_rfl) rfl rfl (zh Tryz.underlying40 rfl sz4 rfl rfl)<|d_uw 1 rfl rfl (by kernel_rfl) (by kernel_rfl) (by kernel_rfl) rfl rfl (ze 3 ty4 rfl rfl rfl)<|d_pv 2 rfl rfl (by kernel_rfl) (by kernel_rfl) rfl rfl (zh Tryz.underlying40 rfl sz4 rfl rfl)<|d_uw 3 rfl rfl (by kernel_rfl) (by kernel_rfl) (by kernel_rfl) rfl rfl (ze 2 ty4 rfl rfl rfl)<|d_pv 4 rfl rfl (by kernel_rfl) (by kernel_rfl) rfl rfl (zMa Tryz.underlying4 rfl rfl)<|d_pv 5 rfl rfl (by kernel_rfl) (by kernel_rfl) rfl rfl (zb rfl)<|d_pv 7 rfl rfl (by kernel_rfl) (by kernel_rfl) rfl rfl (zh Tryz.underlying40 rfl sz4 rfl rfl)<|d_uw 8 rfl rfl (by kernel_rfl) (by kernel_rfl) (by kernel_rfl) rfl rfl (ze 2 ty4 rfl rfl rfl)<|d_pv 9 rfl rfl (by kernel_rfl) (by kernel_rfl) rfl rfl (zb rfl)<|zG 6 (by kernel_rfl) (zw rfl rfl rfl rfl (.c rfl (.c rfl .n)) ce94 (zya (s:=decide (decide (x1<0)≠decide (x2<0))) (a:=((x1).natAbs) / ((x2).natAbs)) (p:=p310) (cap:=c311)) (.c (j:=1) rfl .n) ?_)
    rintro ⟨p227,c228⟩ -
    dsimp only [List.append_eq,List.nil_append,List.cons_append]
    refine zG 10 (by kernel_rfl) (zw rfl rfl rfl rfl (.c rfl (.c rfl .n)) ce94 (zya (s:=decide (x2<0)) (a:=(((x1).natAbs)%((x2).natAbs))) (p:=p214) (cap:=c215)) (.c (j:=1) rfl .n) ?_)
    rintro ⟨p229,c230⟩ -
    dsimp only [List.append_eq,List.nil_append,List.cons_append]
    refine zG 11 (by kernel_rfl) (zz (by kernel_rfl) rfl rfl rfl rfl rfl sz40 rfl (.take (.take .nil)) ?_)
    refine zGa (zga (i:=1) rfl)<|zG 12 (by kernel_rfl) (zz (by kernel_rfl) rfl rfl rfl rfl rfl sz40 rfl (.take (.take .nil)) ?_)
    refine d_pv 13 rfl rfl (by kernel_rfl) (by kernel_rfl) rfl rfl (zd rfl)<|zY (by kernel_rfl)<|zf<|zI ?_
    have hsg:(decide (decide (x1<0)≠decide (x2<0)))=false:=decide_eq_false hadj
    have hz1:Big.sg (decide (decide (x1<0)≠decide (x2<0))) ((x1.natAbs / x2.natAbs:Nat):Int)=Big.fq x1 x2:=by rw [hsg];exact (Big.fq_same hy (Decidable.not_not.1 hadj)).1
    have hz2:Big.sg (decide (x2<0)) ((x1.natAbs%x2.natAbs:Nat):Int)=Big.fr x1 x2:=(Big.fq_same hy (Decidable.not_not.1 hadj)).2
    exact zRc Tryz.results93 (p227,c228,p229,c230) trivial (zq 1 ty40 rfl rfl (.take (.take .nil))) (zq 0 ty40 rfl rfl (.take (.take .nil))) (zt rfl) (by rw [hz1,hz2]) (ho:=(.n:PickO _ _ _)) ((.e (j:=1) rfl (by rw [hz1]) (.e (j:=0) rfl (by rw [hz2]) .n)):SelR _ _ _)
  ·
   refine za rfl rfl<|za rfl rfl<|za rfl rfl<|za rfl rfl<|za rfl rfl<|r_pv rfl rfl (zk rfl rfl)<|zj<|zf<|zdb rfl rfl<|zD<|zf<|zi<|zqa (.c (i:=1) rfl (.c (i:=0) rfl (.c (i:=0) rfl (.c (i:=0) rfl .n))))<|zaa (OW:=[boxA b3 40 [.bool false,.slice none 0 0],boxA b4 40 [.bool false,.slice none 0 0]]) (O:=[boxA b2 40 [.bool (decide (x2<0)),.slice p2 ((Big.digs ((x2).natAbs)).length) c2],boxA b1 40 [.bool (decide (x1<0)),.slice p1 ((Big.digs ((x1).natAbs)).length) c1]]) 11 mixed (.then .ret) (by kernel_rfl)<|d_pv 0 rfl rfl (by kernel_rfl) (by kernel_rfl) rfl rfl (zh Tryz.underlying40 rfl sz4 rfl rfl)<|d_uw 1 rfl rfl (by kernel_rfl) (by kernel_rfl) (by kernel_rfl) rfl rfl (ze 3 ty4 rfl rfl rfl)<|d_pv 2 rfl rfl (by kernel_rfl) (by kernel_rfl) rfl rfl (zh Tryz.underlying40 rfl sz4 rfl rfl)<|d_uw 3 rfl rfl (by kernel_rfl) (by kernel_rfl) (by kernel_rfl) rfl rfl (ze 2 ty4 rfl rfl rfl)<|d_pv 4 rfl rfl (by kernel_rfl) (by kernel_rfl) rfl rfl (zMa Tryz.underlying4 rfl rfl)<|d_pv 5 rfl rfl (by kernel_rfl) (by kernel_rfl) rfl rfl (zb rfl)<|d_pv 7 rfl rfl (by kernel_rfl) (by kernel_rfl) rfl rfl (zh Tryz.underlying40 rfl sz4 rfl rfl)<|d_uw 8 rfl rfl (by kernel_rfl) (by kernel_rfl) (by kernel_rfl) rfl rfl (ze 2 ty4 rfl rfl rfl)<|d_pv 9 rfl rfl (by kernel_rfl) (by kernel_rfl) rfl rfl (zb rfl)<|zG 6 (by kernel_rfl) (zw rfl rfl rfl rfl (.c rfl (.c rfl .n)) ce94 (zya (s:=decide (decide (x1<0)≠decide (x2<0))) (a:=((x1).natAbs) / ((x2).natAbs)) (p:=p310) (cap:=c311)) (.c (j:=1) rfl .n) ?_)
   rintro ⟨p231,c232⟩ -
   dsimp only [List.append_eq,List.nil_append,List.cons_append]
   refine zG 10 (by kernel_rfl) (zw rfl rfl rfl rfl (.c rfl (.c rfl .n)) ce94 (zya (s:=decide (x2<0)) (a:=(((x1).natAbs)%((x2).natAbs))) (p:=p214) (cap:=c215)) (.c (j:=1) rfl .n) ?_)
   rintro ⟨p233,c234⟩ -
   dsimp only [List.append_eq,List.nil_append,List.cons_append]
   refine zG 11 (by kernel_rfl) (zz (by kernel_rfl) rfl rfl rfl rfl rfl sz40 rfl (.take (.take .nil)) ?_)
   refine zGa (zga (i:=1) rfl)<|zG 12 (by kernel_rfl) (zz (by kernel_rfl) rfl rfl rfl rfl rfl sz40 rfl (.take (.take .nil)) ?_)
   refine d_pv 13 rfl rfl (by kernel_rfl) (by kernel_rfl) rfl rfl (zd rfl)<|zY (by kernel_rfl)<|zf<|zI ?_
   have hr0:x1.natAbs%x2.natAbs=0:=Big.len_digs_nil.1 (by omega)
   have hz:Big.sg (decide (decide (x1<0)≠decide (x2<0))) ((x1.natAbs / x2.natAbs:Nat):Int)=Big.fq x1 x2∧Big.sg (decide (x2<0)) ((x1.natAbs%x2.natAbs:Nat):Int)=Big.fr x1 x2:=by by_cases h:decide (x1<0)=decide (x2<0);rw [decide_eq_false (not_not_intro h)];exact Big.fq_same hy h;rw [decide_eq_true h];exact Big.fq_even hy h hr0
   exact zRc Tryz.results93 (p231,c232,p233,c234) trivial (zq 1 ty40 rfl rfl (.take (.take .nil))) (zq 0 ty40 rfl rfl (.take (.take .nil))) (zt rfl) (by rw [hz.1,hz.2]) (ho:=(.n:PickO _ _ _)) ((.e (j:=1) rfl (by rw [hz.1]) (.e (j:=0) rfl (by rw [hz.2]) .n)):SelR _ _ _)
theorem zzb {w1:Wd} {w2:Wd} {x1:Int} {x2:Int} (hb1:Big.ln x1≤1099511627776) (hb2:Big.ln x2≤1099511627776) (hy:x2≠0):Con Tryz.prog 93 [.agg #[w1.b,w1.l],.agg #[w2.b,w2.l]] [] [zF w1 (x1),zF w2 (x2)] (Y:=(Wd)×(Wd)) (fun y=>True) (fun y=> .tuple #[.agg #[y.1.b,y.1.l],.agg #[y.2.b,y.2.l],.int .i64 (0)]) (fun y=>[]) (fun y=>[zF y.1 (Big.fq x1 x2),zF y.2 (Big.fr x1 x2)]):=by
  exact zVe (zYb (fun p1 c1 p2 c2=>zTd hb1 hb2 hy))
theorem zpc {x1:Int} {x2:Int} {p1:Option Addr} {c1:Nat} {p2:Option Addr} {c2:Nat}:Con Tryz.prog 69 [.agg #[.bool (decide (x1<0)),.slice p1 ((Big.digs ((x1).natAbs)).length) c1],.agg #[.bool (decide (x2<0)),.slice p2 ((Big.digs ((x2).natAbs)).length) c2]] [] [slF (rI .u32) p1 c1 (Big.digs ((x1).natAbs)),slF (rI .u32) p2 c2 (Big.digs ((x2).natAbs))] (Y:=Unit) (fun y=>True) (fun y=> .int .i64 (Big.cmp x1 x2)) (fun y=>[]) (fun y=>[]):=by
 refine zr Tryz.func69 rfl rfl rfl (fun c=> ?_)
 show RunC _ _ _ _ _ [(0,.agg #[.bool (decide (x1<0)),.slice p1 ((Big.digs ((x1).natAbs)).length) c1]),(1,.agg #[.bool (decide (x2<0)),.slice p2 ((Big.digs ((x2).natAbs)).length) c2])] [] [slF (rI .u32) p1 c1 (Big.digs ((x1).natAbs)),slF (rI .u32) p2 c2 (Big.digs ((x2).natAbs))]
 refine zba 0 rfl (fun hL0=> ?_)
 refine zba 1 rfl (fun hL1=> ?_)
 have hcb:=Big.cmp_b (x1.natAbs:Int) (x2.natAbs:Int)
 refine zi<|zc<|zJ rfl rfl (zT rfl rfl) (fun b1=> ?_)
 refine zJ rfl rfl (zT rfl rfl) (fun b2=> ?_)
 refine r_pv rfl rfl (zd rfl)<|zj<|zf<|zi<|zi<|zaa (OW:=[]) (O:=[boxA b2 40 [.bool (decide (x2<0)),.slice p2 ((Big.digs ((x2).natAbs)).length) c2],boxA b1 40 [.bool (decide (x1<0)),.slice p1 ((Big.digs ((x1).natAbs)).length) c1]]) 100000 mixed (.then (.then .ret)) (by kernel_rfl)<|d_u 0 rfl rfl (by kernel_rfl) (by kernel_rfl) rfl rfl (zg 1 ty40 rfl rfl (.take (.take .nil)))<|d_u 2 rfl rfl (by kernel_rfl) (by kernel_rfl) rfl rfl (zg 0 ty40 rfl rfl (.take (.take .nil)))<|zG 1 (by kernel_rfl) (zDb rfl rfl rfl rfl (.c rfl .n) ce90 (zHc (z:=x1) (p:=p1) (cap:=c1)) (.c (j:=0) rfl .n) ?_)
 refine zG 3 (by kernel_rfl) (zDb rfl rfl rfl rfl (.c rfl .n) ce90 (zHc (z:=x2) (p:=p2) (cap:=c2)) (.c (j:=1) rfl .n) ?_)
 refine d_pv 4 rfl rfl (by kernel_rfl) (by kernel_rfl) rfl rfl (zd rfl)<|d_pv 5 rfl rfl (by kernel_rfl) (by kernel_rfl) rfl rfl (zd rfl)<|zY (by kernel_rfl)<|zf<|zi<|zc<|r_pv rfl rfl (zb rfl)<|r_pv rfl rfl (zb rfl)<|r_pv rfl rfl (zJa rfl rfl)<|zj<|zf<|zK rfl (fun hs=> ?_) (fun hs=> ?_)
 ·
  refine zi<|zc<|r_pv rfl rfl (zb rfl)<|r_pv rfl rfl (zb rfl)<|zL rfl rfl (.c rfl (.c rfl .n)) ce99 (zFc (u:=(x1).sign) (v:=(x2).sign)) (.n)<|r_pv rfl rfl (zd rfl)<|zj<|zf<|zI<|zv ?_
  exact zB Tryz.results69 () trivial (zt rfl) (by rw [Big.cmp_signs hs]) (ho:=(.n:PickO _ _ _)) (.n:SelR _ _ _)
 ·
  refine zD<|zf<|zi<|zaa (OW:=[]) (O:=[boxA b2 40 [.bool (decide (x2<0)),.slice p2 ((Big.digs ((x2).natAbs)).length) c2],boxA b1 40 [.bool (decide (x1<0)),.slice p1 ((Big.digs ((x1).natAbs)).length) c1]]) 100000 mixed (.then .ret) (by kernel_rfl)<|d_u 0 rfl rfl (by kernel_rfl) (by kernel_rfl) rfl rfl (zg 1 ty40 rfl rfl (.take (.take .nil)))<|d_u 2 rfl rfl (by kernel_rfl) (by kernel_rfl) rfl rfl (zg 0 ty40 rfl rfl (.take (.take .nil)))<|zG 1 (by kernel_rfl) (zw rfl rfl rfl rfl (.c rfl .n) ce96 (zxb (z:=x1) (p:=p1) (cap:=c1)) (.c (j:=0) rfl .n) ?_)
  rintro ⟨p23,c24⟩ -
  dsimp only [List.append_eq,List.nil_append,List.cons_append]
  refine zG 3 (by kernel_rfl) (zw rfl rfl rfl rfl (.c rfl .n) ce96 (zxb (z:=x2) (p:=p2) (cap:=c2)) (.c (j:=2) rfl .n) ?_)
  rintro ⟨p25,c26⟩ -
  dsimp only [List.append_eq,List.nil_append,List.cons_append]
  refine zG 4 (by kernel_rfl) (zDb rfl rfl rfl rfl (.c rfl (.c rfl .n)) ce100 (zQb (a:=(x1).natAbs) (b:=(x2).natAbs) (p1:=p23) (c1:=c24) (p2:=p25) (c2:=c26)) (.c (j:=1) rfl (.c (j:=0) rfl .n)) ?_)
  refine d_pv 5 rfl rfl (by kernel_rfl) (by kernel_rfl) rfl rfl (zd rfl)<|zY (by kernel_rfl)<|zf<|zi<|zi<|zc<|r_pv rfl rfl (zh Tryz.underlying40 rfl sz4 rfl rfl)<|r_u rfl rfl (ze 1 ty4 rfl rfl rfl)<|zj<|zf<|zhc rfl (fun hn=> ?_) (fun hn=> ?_)
  ·
   refine zi<|zc<|r_pv rfl rfl (zb rfl)<|r_pv rfl rfl (zHe (z:=(-(Big.cmp (((x1).natAbs):Int) (((x2).natAbs):Int)))) rfl (w64 (by omega)))<|r_pv rfl rfl (zd rfl)<|zj<|zf<|zI<|zv ?_
   exact zB Tryz.results69 () trivial (zt rfl) (by rw [Big.cmp_neg hs (by simpa using hn)]) (ho:=(.n:PickO _ _ _)) (.n:SelR _ _ _)
  ·
   refine zD<|zf<|zi<|zc<|r_pv rfl rfl (zb rfl)<|r_pv rfl rfl (zd rfl)<|zj<|zf<|zI ?_
   exact zB Tryz.results69 () trivial (zt rfl) (by rw [Big.cmp_pos hs (by simpa using hn)]) (ho:=(.n:PickO _ _ _)) (.n:SelR _ _ _)
theorem zHd {w1:Wd} {w2:Wd} {x1:Int} {x2:Int}:Con Tryz.prog 69 [.agg #[w1.b,w1.l],.agg #[w2.b,w2.l]] [] [zF w1 (x1),zF w2 (x2)] (Y:=Unit) (fun y=>True) (fun y=> .int .i64 (Big.cmp x1 x2)) (fun y=>[]) (fun y=>[]):=by
  exact zYb (fun p1 c1 p2 c2=>zpc)
theorem zUd {s:Bool} {p:Option Addr} {n:Nat} {cap:Nat} {l:List Int} (hn:l.length=n) (hln:Big.ln (Big.raw s l)≤1099511627776):Con Tryz.prog 91 [.agg #[.bool s,.slice p n cap]] [] [slF (rI .u32) p cap l] (Y:=(Option Addr)×Nat) (fun y=>True) (fun y=> .agg #[.bool (decide ((- Big.raw s l)<0)),.slice (y.1) ((Big.digs ((- Big.raw s l).natAbs)).length) (y.2)]) (fun y=>[]) (fun y=>[slF (rI .u32) (y.1) (y.2) (Big.digs ((- Big.raw s l).natAbs))]):=by
 refine zr Tryz.func91 rfl rfl rfl (fun c=> ?_)
 show RunC _ _ _ _ _ [(0,.agg #[.bool s,.slice p n cap])] [] [slF (rI .u32) p cap l]
 refine zba 0 rfl (fun hL0=> ?_)
 refine zUa 0 rfl (fun hE0=> ?_)
 have hnn:Big.nn l:=fun g hg=>(zy.1 (hE0 g hg)).1
 unfold Big.ln at hln
 refine zi<|zc<|zJ rfl rfl (zT rfl rfl) (fun b1=> ?_)
 refine zJ rfl rfl (zu zr40 rfl) (fun b2=> ?_)
 refine zj<|zf<|zi<|zaa (OW:=[boxA b2 40 [.bool false,.slice none 0 0]]) (O:=[boxA b1 40 [.bool s,.slice p n cap]]) 7 mixed (.then .ret) (by kernel_rfl)<|d_pv 0 rfl rfl (by kernel_rfl) (by kernel_rfl) rfl rfl (zh Tryz.underlying40 rfl sz4 rfl rfl)<|d_uw 1 rfl rfl (by kernel_rfl) (by kernel_rfl) (by kernel_rfl) rfl rfl (ze 1 ty4 rfl rfl rfl)<|d_pv 2 rfl rfl (by kernel_rfl) (by kernel_rfl) rfl rfl (zrb rfl)<|d_uw 3 rfl rfl (by kernel_rfl) (by kernel_rfl) (by kernel_rfl) rfl rfl (zg 1 ty40 rfl rfl (.take (.take .nil)))<|zG 4 (by kernel_rfl) (zw rfl rfl rfl rfl (.c rfl .n) ce96 (zPa (s:=s) (p:=p) (n:=n) (cap:=cap) (l:=l) (hn:=by assumption)) (.c (j:=0) rfl .n) ?_)
 rintro ⟨p23,c24⟩ -
 dsimp only [List.append_eq,List.nil_append,List.cons_append]
 refine zG 5 (by kernel_rfl) (zw rfl rfl rfl rfl (.c rfl .n) ce114 (zjd (a:=(Big.raw s l).natAbs) (p:=p23) (cap:=c24) (hb:=by first|rfl|assumption|omega|(simp;done)|(simp;omega)|(simp_all;done))) (.c (j:=0) rfl .n) ?_)
 rintro ⟨p25,c26⟩ -
 dsimp only [List.append_eq,List.nil_append,List.cons_append]
 refine zG 6 (by kernel_rfl) (zw rfl rfl rfl rfl (.c rfl (.c rfl .n)) ce94 (zya (s:= !s) (a:=((Big.raw s l).natAbs)) (p:=p25) (cap:=c26)) (.c (j:=0) rfl .n) ?_)
 rintro ⟨p27,c28⟩ -
 dsimp only [List.append_eq,List.nil_append,List.cons_append]
 refine zG 7 (by kernel_rfl) (zz (by kernel_rfl) rfl rfl rfl rfl rfl sz40 rfl (.take (.take .nil)) ?_)
 refine zY (by kernel_rfl)<|zf<|zI ?_
 have hz:Big.sg (!s) ((Big.raw s l).natAbs:Int)= - Big.raw s l:=by rw [Big.sg_not,Big.sg_raw hnn]
 exact zB Tryz.results91 (p27,c28) trivial (zq 0 ty40 rfl rfl (.take (.take .nil))) (by rw [hz]) (ho:=(.n:PickO _ _ _)) ((.e (j:=0) rfl (by rw [hz]) .n):SelR _ _ _)
theorem zkd {z:Int} {p:Option Addr} {cap:Nat} (hln:Big.ln z≤1099511627776):Con Tryz.prog 91 [.agg #[.bool (decide ((z)<0)),.slice (p) ((Big.digs ((z).natAbs)).length) (cap)]] [] [slF (rI .u32) (p) (cap) (Big.digs ((z).natAbs))] (Y:=(Option Addr)×(Nat)) (fun y=>True) (fun y=> .agg #[.bool (decide ((- z)<0)),.slice (y.1) ((Big.digs ((- z).natAbs)).length) (y.2)]) (fun y=>[]) (fun y=>[slF (rI .u32) (y.1) (y.2) (Big.digs ((- z).natAbs))]):=by
  have h:= @zUd (decide ((z)<0)) p (Big.digs (z).natAbs).length cap (Big.digs (z).natAbs) rfl (by rw [Big.raw_big];exact hln)
  rw [Big.raw_big] at h
  exact h
theorem zld {w1:Wd} {x1:Int} (hln:Big.ln x1≤1099511627776):Con Tryz.prog 91 [.agg #[w1.b,w1.l]] [] [zF w1 (x1)] (Y:=(Wd)) (fun y=>True) (fun y=> .agg #[y.b,y.l]) (fun y=>[]) (fun y=>[zF y (- x1)]):=by
  exact zNb (zvd (fun p c=>zkd hln))
end Go.Proofs.YtefbbhiaalcjfaaGreat.Sp
namespace Go.Proofs.YtefbbhiaalcjfaaGreat.Sp
open Go
set_option linter.unusedVariables false
set_option maxRecDepth 100000
set_option maxHeartbeats 1000000
theorem zye {s:Bool} {p1:Option Addr} {n1:Nat} {c1:Nat} {l1:List Int} {t:Bool} {p2:Option Addr} {n2:Nat} {c2:Nat} {l2:List Int} (hn1:l1.length=n1) (hn2:l2.length=n2) (hm1:n1≤1048576) (hm2:n2≤1048576):Con Tryz.prog 88 [.agg #[.bool s,.slice p1 n1 c1,.bool t,.slice p2 n2 c2]] [] [slF (rI .u32) p1 c1 l1,slF (rI .u32) p2 c2 l2] (Y:=Unit) (fun y=>True) (fun y=> .bool (decide (Big.qok ((s,l1),(t,l2))))) (fun y=>[]) (fun y=>[]):=by
 refine zr Tryz.func88 rfl rfl rfl (fun c=> ?_)
 show RunC _ _ _ _ _ [(0,.agg #[.bool s,.slice p1 n1 c1,.bool t,.slice p2 n2 c2])] [] [slF (rI .u32) p1 c1 l1,slF (rI .u32) p2 c2 l2]
 refine zba 0 rfl (fun hL0=> ?_)
 refine zUa 0 rfl (fun hE0=> ?_)
 refine zba 1 rfl (fun hL1=> ?_)
 refine zUa 1 rfl (fun hE1=> ?_)
 have hnn1:Big.nn l1:=fun g hg=>(zy.1 (hE0 g hg)).1
 have hnn2:Big.nn l2:=fun g hg=>(zy.1 (hE1 g hg)).1
 have hb1:Big.ln (Big.raw s l1)≤n1:=by have:=Big.zVa (s:=s) hnn1;omega
 have hb2:Big.ln (Big.raw t l2)≤n2:=by have:=Big.zVa (s:=t) hnn2;omega
 refine zi<|zc<|zJ rfl rfl (zT rfl rfl) (fun b1=> ?_)
 refine r_pv rfl rfl (zd rfl)<|zj<|zf<|zi<|zQa (X:=Unit) (fun x=>True) (fun x=>[(18,.bool (decide (¬(Big.canon s l1∧Big.canon t l2∧0<Big.raw t l2)))),(2,.bool false),(1,.pointer (some ⟨b1,0,none⟩))]) (fun x=>[boxA b1 42 [.bool s,.slice p1 n1 c1,.bool t,.slice p2 n2 c2]]) (fun x=>[slF (rI .u32) p1 c1 l1,slF (rI .u32) p2 c2 l2]) ?_ ?_
 ·
  refine zc<|r_pv rfl rfl (zh Tryz.underlying42 rfl sz40 rfl rfl)<|r_u rfl rfl (zg 0 ty40 rfl rfl (.take (.take .nil)))<|zL rfl rfl (.c rfl .n) ce113 (zdc (s:=s) (p:=p1) (n:=n1) (cap:=c1) (l:=l1) (hn:=by assumption)) (.c (j:=0) rfl .n)<|r_pv rfl rfl (zEa rfl)<|zO rfl rfl (zb rfl) (fun h2=> ?_) (fun h2=> ?_)
  ·
   refine za rfl rfl<|za rfl rfl<|za rfl rfl<|za rfl rfl<|r_pv rfl rfl (zk rfl rfl)<|r_pv rfl rfl (zb rfl)<|za rfl rfl<|za rfl rfl<|za rfl rfl<|za rfl rfl<|r_pv rfl rfl (zk rfl rfl)<|zj ?_
   exact zZ () (show True from by first|trivial|omega|simp_all) ((.e rfl (congrArg Value.bool (by simp_all)) (.c rfl (.c rfl .n))):SubM _ _) (ho:=((.c (i:=0) rfl .n):PickO _ _ _)) ((.of [0,1] rfl):SelR _ _ _)
  ·
   refine r_pv rfl rfl (zh Tryz.underlying42 rfl sz40 rfl rfl)<|r_u rfl rfl (zg 0 ty40 rfl rfl (.skip (.skip (.take (.take .nil)))))<|zL rfl rfl (.c rfl .n) ce113 (zdc (s:=t) (p:=p2) (n:=n2) (cap:=c2) (l:=l2) (hn:=by assumption)) (.c (j:=1) rfl .n)<|r_pv rfl rfl (zEa rfl)<|r_pv rfl rfl (zk rfl rfl)<|zO rfl rfl (zb rfl) (fun h3=> ?_) (fun h3=> ?_)
   ·
    refine za rfl rfl<|za rfl rfl<|za rfl rfl<|za rfl rfl<|r_pv rfl rfl (zk rfl rfl)<|zj ?_
    exact zZ () (show True from by first|trivial|omega|simp_all) ((.e rfl (congrArg Value.bool (by simp_all)) (.c rfl (.c rfl .n))):SubM _ _) (ho:=((.c (i:=0) rfl .n):PickO _ _ _)) ((.of [0,1] rfl):SelR _ _ _)
   ·
    refine r_pv rfl rfl (zh Tryz.underlying42 rfl sz40 rfl rfl)<|r_u rfl rfl (zg 0 ty40 rfl rfl (.skip (.skip (.take (.take .nil)))))<|zL rfl rfl (.c rfl .n) ce90 (zle (s:=t) (p:=p2) (n:=n2) (cap:=c2) (l:=l2) (hn:=by assumption)) (.c (j:=1) rfl .n)<|r_pv rfl rfl (zVb rfl rfl)<|r_pv rfl rfl (zk rfl rfl)<|zj ?_
    exact zZ () (show True from by first|trivial|omega|simp_all) ((.e rfl (congrArg Value.bool (by exact decide_eq_decide.2 (Big.sgn_le (Decidable.not_not.1 ‹_›) (Decidable.not_not.1 ‹_›)))) (.c rfl (.c rfl .n))):SubM _ _) (ho:=((.c (i:=0) rfl .n):PickO _ _ _)) ((.of [0,1] rfl):SelR _ _ _)
 ·
  rintro ⟨⟩ -
  try dsimp only
  refine zK rfl (fun hc=> ?_) (fun hc=> ?_)
  ·
   refine zi<|zc<|r_pv rfl rfl (zd rfl)<|zj<|zf<|zI<|zv ?_
   exact zB Tryz.results88 () trivial (zt rfl) (congrArg Value.bool (decide_eq_false (fun h=>hc ⟨h.1,h.2.1,h.2.2.1⟩))) (ho:=(.n:PickO _ _ _)) (.n:SelR _ _ _)
  ·
   refine zD<|zf<|zi<|zc<|r_pv rfl rfl (zh Tryz.underlying42 rfl sz40 rfl rfl)<|r_u rfl rfl (zg 0 ty40 rfl rfl (.take (.take .nil)))<|r_pv rfl rfl (zh Tryz.underlying42 rfl sz40 rfl rfl)<|r_u rfl rfl (zg 0 ty40 rfl rfl (.skip (.skip (.take (.take .nil)))))<|zx rfl rfl (.c rfl (.c rfl .n)) ce92 (zef (s:=s) (p1:=p1) (n1:=n1) (c1:=c1) (l1:=l1) (t:=t) (p2:=p2) (n2:=n2) (c2:=c2) (l2:=l2) (hn1:=by assumption) (hn2:=by assumption) (hb1:=by first|rfl|assumption|omega|(rw [Big.zQ];omega)|(decide +kernel)) (hb2:=by first|rfl|assumption|omega|(rw [Big.zQ];omega)|(decide +kernel))) (.c (j:=0) rfl (.c (j:=1) rfl .n)) ?_
   rintro ⟨p34,c35⟩ -
   dsimp only [List.append_eq,List.nil_append,List.cons_append]
   refine zx rfl rfl (.c rfl .n) ce68 (zLf (z:=1) (hz:=by first|rfl|assumption|omega|(rw [Big.zQ];omega)|(decide +kernel))) (.n) ?_
   rintro ⟨p26,c27⟩ -
   dsimp only [List.append_eq,List.nil_append,List.cons_append]
   refine zL rfl rfl (.c rfl (.c rfl .n)) ce69 (zpc (x1:=((Nat.gcd (Big.raw s l1).natAbs (Big.raw t l2).natAbs:Nat):Int)) (x2:=1) (p1:=p34) (c1:=c35) (p2:=p26) (c2:=c27)) (.c (j:=1) rfl (.c (j:=0) rfl .n))<|r_pv rfl rfl (zza rfl rfl)<|r_pv rfl rfl (zd rfl)<|zj<|zf<|zI ?_
   exact zB Tryz.results88 () trivial (zt rfl) (congrArg Value.bool (decide_eq_decide.2 (Big.qok_gcd (x:=((s,l1),(t,l2))) (Decidable.not_not.1 hc)).symm)) (ho:=(.n:PickO _ _ _)) (.n:SelR _ _ _)
theorem zRb {w1:Wd} {w2:Wd} {x1:Int} {x2:Int} (hl1:Big.ln x1≤1048576) (hl2:Big.ln x2≤1048576) (hd:x2≠0):Con Tryz.prog 64 [.agg #[w1.b,w1.l],.agg #[w2.b,w2.l]] [] [zF w1 x1,zF w2 x2] (Y:=Wd×Wd) (fun y=>True) (fun y=> .agg #[y.1.b,y.1.l,y.2.b,y.2.l]) (fun y=>[]) (fun y=>[qF true y.1 y.2 (Rat.divInt x1 x2)]):=by
 refine zr Tryz.func64 rfl rfl rfl (fun c=> ?_)
 show RunC _ _ _ _ _ [(0,.agg #[w1.b,w1.l]),(1,.agg #[w2.b,w2.l])] [] [zF w1 x1,zF w2 x2]
 refine zi<|zc<|zJ rfl rfl (zT rfl rfl) (fun b1=> ?_)
 refine zJ rfl rfl (zT rfl rfl) (fun b2=> ?_)
 refine zJ rfl rfl (zu zr42 rfl) (fun b3=> ?_)
 refine zj<|zf<|zi<|zi<|zc<|r_u rfl rfl (zg 1 ty40 rfl rfl (.take (.take .nil)))<|zL rfl rfl (.c rfl .n) ce90 (zFd (w1:=w2) (x1:=x2)) (.c (j:=1) rfl .n)<|r_pv rfl rfl (zfa rfl rfl)<|zj<|zf<|zK rfl (fun hneg=> ?_) (fun hneg=> ?_)
 ·
  have hs:x2<0:=by rcases Big.sign_le (x:=x2) with h|h|h <;> omega
  have hgp:=Big.gcd_pos_right (n:= -x1) (d:= -x2) (by omega)
  have hgl:=Big.zwd (n:= -x1) (d:= -x2) (by omega)
  rw [Big.zQ] at hgl
  obtain ⟨hr1,hr2⟩:=Big.red_flip (n:=x1) hs
  refine zqa (.c (i:=2) rfl (.c (i:=1) rfl (.c (i:=0) rfl .n)))<|zaa (OW:=[boxA b1 40 [w1.b,w1.l],boxA b2 40 [w2.b,w2.l]]) (O:=[boxA b3 42 [.bool false,.slice none 0 0,.bool false,.slice none 0 0]]) 4 mixed (.then .ret) (by kernel_rfl)<|d_uw 0 rfl rfl (by kernel_rfl) (by kernel_rfl) (by kernel_rfl) rfl rfl (zg 0 ty40 rfl rfl (.take (.take .nil)))<|d_uw 2 rfl rfl (by kernel_rfl) (by kernel_rfl) (by kernel_rfl) rfl rfl (zg 1 ty40 rfl rfl (.take (.take .nil)))<|zG 1 (by kernel_rfl) (zw rfl rfl rfl rfl (.c rfl .n) ce91 (zld (w1:=w1) (x1:=x1) (hln:=by first|rfl|assumption|omega|(rw [Big.zQ];omega)|(decide +kernel))) (.c (j:=0) rfl .n) ?_)
  rintro w34 -
  dsimp only [List.append_eq,List.nil_append,List.cons_append]
  refine zG 3 (by kernel_rfl) (zw rfl rfl rfl rfl (.c rfl .n) ce91 (zld (w1:=w2) (x1:=x2) (hln:=by first|rfl|assumption|omega|(rw [Big.zQ];omega)|(decide +kernel))) (.c (j:=2) rfl .n) ?_)
  rintro w35 -
  dsimp only [List.append_eq,List.nil_append,List.cons_append]
  refine zG 4 (by kernel_rfl) (zz (by kernel_rfl) rfl rfl rfl rfl rfl sz40 rfl (.take (.take .nil)) ?_)
  refine zGa (zga (i:=1) rfl)<|zG 5 (by kernel_rfl) (zz (by kernel_rfl) rfl rfl rfl rfl rfl sz40 rfl (.take (.take .nil)) ?_)
  refine zY (by kernel_rfl)<|zf<|zi<|zc<|r_u rfl rfl (zg 1 ty40 rfl rfl (.take (.take .nil)))<|r_u rfl rfl (zg 0 ty40 rfl rfl (.take (.take .nil)))<|zx rfl rfl (.c rfl (.c rfl .n)) ce92 (zne (w1:=w34) (w2:=w35) (x1:= - x1) (x2:= - x2) (hb1:=by first|rfl|assumption|omega|(rw [Big.zQ];omega)|(decide +kernel)) (hb2:=by first|rfl|assumption|omega|(rw [Big.zQ];omega)|(decide +kernel))) (.c (j:=1) rfl (.c (j:=0) rfl .n)) ?_
  rintro w36 -
  dsimp only [List.append_eq,List.nil_append,List.cons_append]
  refine zJ rfl rfl (zu zr40 rfl) (fun b7=> ?_)
  refine zl 0 rfl rfl rfl rfl rfl sz40 rfl (.take (.take .nil)) .z<|zj<|zf<|zi<|zc<|r_u rfl rfl (zg 2 ty40 rfl rfl (.take (.take .nil)))<|r_u rfl rfl (zg 0 ty40 rfl rfl (.take (.take .nil)))<|zx rfl rfl (.c rfl (.c rfl .n)) ce93 (zzb (w1:=w34) (w2:=w36) (x1:= - x1) (x2:=((Nat.gcd (- x1).natAbs (- x2).natAbs:Nat):Int)) (hb1:=by first|rfl|assumption|omega|(rw [Big.zQ];omega)|(decide +kernel)) (hb2:=by first|rfl|assumption|omega|(rw [Big.zQ];omega)|(decide +kernel)) (hy:=by first|rfl|assumption|omega|(rw [Big.zQ];omega)|(decide +kernel))) (.c (j:=2) rfl (.c (j:=0) rfl .n)) ?_
  rintro ⟨w38,w49⟩ -
  dsimp only [List.append_eq,List.nil_append,List.cons_append]
  refine r_pv rfl rfl (zb rfl)<|r_pv rfl rfl (zm rfl rfl)<|r_pv rfl rfl (zm rfl rfl)<|r_pv rfl rfl (zm rfl rfl)<|zl 2 rfl rfl rfl rfl rfl sz40 rfl (.take (.take .nil)) (.s (.s .z))<|zj<|zf<|zi<|zc<|r_u rfl rfl (zg 1 ty40 rfl rfl (.take (.take .nil)))<|r_u rfl rfl (zg 0 ty40 rfl rfl (.take (.take .nil)))<|zx rfl rfl (.c rfl (.c rfl .n)) ce93 (zzb (w1:=w35) (w2:=w36) (x1:= - x2) (x2:=((Nat.gcd (- x1).natAbs (- x2).natAbs:Nat):Int)) (hb1:=by first|rfl|assumption|omega|(rw [Big.zQ];omega)|(decide +kernel)) (hb2:=by first|rfl|assumption|omega|(rw [Big.zQ];omega)|(decide +kernel)) (hy:=by first|rfl|assumption|omega|(rw [Big.zQ];omega)|(decide +kernel))) (.c (j:=3) rfl (.c (j:=2) rfl .n)) ?_
  rintro ⟨w310,w411⟩ -
  dsimp only [List.append_eq,List.nil_append,List.cons_append]
  refine r_pv rfl rfl (zb rfl)<|r_pv rfl rfl (zm rfl rfl)<|r_pv rfl rfl (zm rfl rfl)<|r_pv rfl rfl (zm rfl rfl)<|zl 1 rfl rfl rfl rfl rfl sz40 rfl (.take (.take .nil)) (.s .z)<|zj<|zf<|zi<|zc<|r_u rfl rfl (zg 2 ty40 rfl rfl (.take (.take .nil)))<|r_u rfl rfl (zg 1 ty40 rfl rfl (.take (.take .nil)))<|r_pv rfl rfl (zE zr42 rfl Tryz.underlying42 (.c sz40 (.c sz40 .n)) (.c rfl (.c rfl .n)) (.c rfl rfl rfl (.take (.take .nil)) (.c rfl rfl rfl (.skip (.skip (.take (.take .nil)))) .n)))<|zl 3 rfl rfl rfl rfl rfl sz42 rfl (.take (.take (.take (.take .nil)))) (.s (.s (.s .z)))<|zj<|zf<|zI<|zib (qF true w38 w310 (Rat.divInt x1 x2)) (qF_close 2 0 rfl rfl (by exact ⟨hr1,hr2,Nat.le_trans (Big.hq_divInt hd) (by omega)⟩)) ?_
  exact zB Tryz.results64 (w38,w310) trivial (zq 3 ty42 rfl rfl (.take (.take (.take (.take .nil))))) rfl (ho:=(.n:PickO _ _ _)) ((.c (j:=0) rfl .n):SelR _ _ _)
 ·
  have hs:0<x2:=by rcases Big.sign_le (x:=x2) with h|h|h <;> omega
  have hgp:=Big.gcd_pos_right (n:=x1) (d:=x2) (by omega)
  have hgl:=Big.zwd (n:=x1) (d:=x2) (by omega)
  obtain ⟨hr1,hr2⟩:=Big.red_pos (n:=x1) hs
  refine zD<|zf<|zi<|zc<|r_u rfl rfl (zg 2 ty40 rfl rfl (.take (.take .nil)))<|r_u rfl rfl (zg 1 ty40 rfl rfl (.take (.take .nil)))<|zx rfl rfl (.c rfl (.c rfl .n)) ce92 (zne (w1:=w1) (w2:=w2) (x1:=x1) (x2:=x2) (hb1:=by first|rfl|assumption|omega|(rw [Big.zQ];omega)|(decide +kernel)) (hb2:=by first|rfl|assumption|omega|(rw [Big.zQ];omega)|(decide +kernel))) (.c (j:=0) rfl (.c (j:=1) rfl .n)) ?_
  rintro w312 -
  dsimp only [List.append_eq,List.nil_append,List.cons_append]
  refine zJ rfl rfl (zu zr40 rfl) (fun b13=> ?_)
  refine zl 0 rfl rfl rfl rfl rfl sz40 rfl (.take (.take .nil)) .z<|zj<|zf<|zi<|zc<|r_u rfl rfl (zg 3 ty40 rfl rfl (.take (.take .nil)))<|r_u rfl rfl (zg 0 ty40 rfl rfl (.take (.take .nil)))<|zx rfl rfl (.c rfl (.c rfl .n)) ce93 (zzb (w1:=w1) (w2:=w312) (x1:=x1) (x2:=((Nat.gcd x1.natAbs x2.natAbs:Nat):Int)) (hb1:=by first|rfl|assumption|omega|(rw [Big.zQ];omega)|(decide +kernel)) (hb2:=by first|rfl|assumption|omega|(rw [Big.zQ];omega)|(decide +kernel)) (hy:=by first|rfl|assumption|omega|(rw [Big.zQ];omega)|(decide +kernel))) (.c (j:=1) rfl (.c (j:=0) rfl .n)) ?_
  rintro ⟨w314,w415⟩ -
  dsimp only [List.append_eq,List.nil_append,List.cons_append]
  refine r_pv rfl rfl (zb rfl)<|r_pv rfl rfl (zm rfl rfl)<|r_pv rfl rfl (zm rfl rfl)<|r_pv rfl rfl (zm rfl rfl)<|zl 3 rfl rfl rfl rfl rfl sz40 rfl (.take (.take .nil)) (.s (.s (.s .z)))<|zj<|zf<|zi<|zc<|r_u rfl rfl (zg 2 ty40 rfl rfl (.take (.take .nil)))<|r_u rfl rfl (zg 0 ty40 rfl rfl (.take (.take .nil)))<|zx rfl rfl (.c rfl (.c rfl .n)) ce93 (zzb (w1:=w2) (w2:=w312) (x1:=x2) (x2:=((Nat.gcd x1.natAbs x2.natAbs:Nat):Int)) (hb1:=by first|rfl|assumption|omega|(rw [Big.zQ];omega)|(decide +kernel)) (hb2:=by first|rfl|assumption|omega|(rw [Big.zQ];omega)|(decide +kernel)) (hy:=by first|rfl|assumption|omega|(rw [Big.zQ];omega)|(decide +kernel))) (.c (j:=4) rfl (.c (j:=2) rfl .n)) ?_
  rintro ⟨w316,w417⟩ -
  dsimp only [List.append_eq,List.nil_append,List.cons_append]
  refine r_pv rfl rfl (zb rfl)<|r_pv rfl rfl (zm rfl rfl)<|r_pv rfl rfl (zm rfl rfl)<|r_pv rfl rfl (zm rfl rfl)<|zl 2 rfl rfl rfl rfl rfl sz40 rfl (.take (.take .nil)) (.s (.s .z))<|zj<|zf<|zi<|zc<|r_u rfl rfl (zg 3 ty40 rfl rfl (.take (.take .nil)))<|r_u rfl rfl (zg 2 ty40 rfl rfl (.take (.take .nil)))<|r_pv rfl rfl (zE zr42 rfl Tryz.underlying42 (.c sz40 (.c sz40 .n)) (.c rfl (.c rfl .n)) (.c rfl rfl rfl (.take (.take .nil)) (.c rfl rfl rfl (.skip (.skip (.take (.take .nil)))) .n)))<|zl 1 rfl rfl rfl rfl rfl sz42 rfl (.take (.take (.take (.take .nil)))) (.s .z)<|zj<|zf<|zI<|zib (qF true w314 w316 (Rat.divInt x1 x2)) (qF_close 2 0 rfl rfl (by exact ⟨hr1,hr2,Nat.le_trans (Big.hq_divInt hd) (by omega)⟩)) ?_
  exact zB Tryz.results64 (w314,w316) trivial (zq 1 ty42 rfl rfl (.take (.take (.take (.take .nil))))) rfl (ho:=(.n:PickO _ _ _)) ((.c (j:=0) rfl .n):SelR _ _ _)
theorem zze {s:Bool} {p1:Option Addr} {n1:Nat} {c1:Nat} {l1:List Int} {t:Bool} {p2:Option Addr} {n2:Nat} {c2:Nat} {l2:List Int} (hn1:l1.length=n1) (hn2:l2.length=n2) (hm1:n1≤1048576) (hm2:n2≤1048576) (hq:Big.qok ((s,l1),(t,l2))):Con Tryz.prog 89 [.agg #[.bool s,.slice p1 n1 c1,.bool t,.slice p2 n2 c2]] [] [slF (rI .u32) p1 c1 l1,slF (rI .u32) p2 c2 l2] (Y:=(Option Addr)×Nat×(Option Addr)×Nat) (fun y=>True) (fun y=> .agg #[.bool (decide (((Big.qv ((s,l1),(t,l2))).num)<0)),.slice (y.1) ((Big.digs (((Big.qv ((s,l1),(t,l2))).num).natAbs)).length) (y.2.1),.bool (decide ((((Big.qv ((s,l1),(t,l2))).den:Nat):Int)<0)),.slice (y.2.2.1) ((Big.digs ((((Big.qv ((s,l1),(t,l2))).den:Nat):Int).natAbs)).length) (y.2.2.2)]) (fun y=>[]) (fun y=>[slF (rI .u32) (y.1) (y.2.1) (Big.digs (((Big.qv ((s,l1),(t,l2))).num).natAbs)),slF (rI .u32) (y.2.2.1) (y.2.2.2) (Big.digs ((((Big.qv ((s,l1),(t,l2))).den:Nat):Int).natAbs))]):=by
 refine zr Tryz.func89 rfl rfl rfl (fun c=> ?_)
 show RunC _ _ _ _ _ [(0,.agg #[.bool s,.slice p1 n1 c1,.bool t,.slice p2 n2 c2])] [] [slF (rI .u32) p1 c1 l1,slF (rI .u32) p2 c2 l2]
 refine zba 0 rfl (fun hL0=> ?_)
 refine zUa 0 rfl (fun hE0=> ?_)
 refine zba 1 rfl (fun hL1=> ?_)
 refine zUa 1 rfl (fun hE1=> ?_)
 have hnn1:Big.nn l1:=fun g hg=>(zy.1 (hE0 g hg)).1
 have hnn2:Big.nn l2:=fun g hg=>(zy.1 (hE1 g hg)).1
 have hb1:Big.ln (Big.raw s l1)≤n1:=by have:=Big.zVa (s:=s) hnn1;omega
 have hb2:Big.ln (Big.raw t l2)≤n2:=by have:=Big.zVa (s:=t) hnn2;omega
 refine zi<|zc<|zJ rfl rfl (zT rfl rfl) (fun b1=> ?_)
 refine zJ rfl rfl (zu zr42 rfl) (fun b2=> ?_)
 refine zj<|zf<|zi<|zaa (OW:=[boxA b2 42 [.bool false,.slice none 0 0,.bool false,.slice none 0 0]]) (O:=[boxA b1 42 [.bool s,.slice p1 n1 c1,.bool t,.slice p2 n2 c2]]) 9 mixed (.then .ret) (by kernel_rfl)<|d_pv 0 rfl rfl (by kernel_rfl) (by kernel_rfl) rfl rfl (zh Tryz.underlying42 rfl sz40 rfl rfl)<|d_uw 1 rfl rfl (by kernel_rfl) (by kernel_rfl) (by kernel_rfl) rfl rfl (zg 1 ty40 rfl rfl (.take (.take .nil)))<|d_pv 4 rfl rfl (by kernel_rfl) (by kernel_rfl) rfl rfl (zh Tryz.underlying42 rfl sz40 rfl rfl)<|d_uw 5 rfl rfl (by kernel_rfl) (by kernel_rfl) (by kernel_rfl) rfl rfl (zg 1 ty40 rfl rfl (.skip (.skip (.take (.take .nil)))))<|zG 2 (by kernel_rfl) (zw rfl rfl rfl rfl (.c rfl .n) ce91 (zUd (s:=s) (p:=p1) (n:=n1) (cap:=c1) (l:=l1) (hn:=by assumption) (hln:=by first|rfl|assumption|omega|(rw [Big.zQ];omega)|(decide +kernel))) (.c (j:=0) rfl .n) ?_)
 rintro ⟨p23,c24⟩ -
 dsimp only [List.append_eq,List.nil_append,List.cons_append]
 refine zG 3 (by kernel_rfl) (zw rfl rfl rfl rfl (.c rfl .n) ce91 (zkd (z:= - Big.raw s l1) (p:=p23) (cap:=c24) (hln:=by first|rfl|assumption|omega|(rw [Big.zQ];omega)|(decide +kernel))) (.c (j:=0) rfl .n) ?_)
 rintro ⟨p25,c26⟩ -
 dsimp only [List.append_eq,List.nil_append,List.cons_append]
 refine zG 6 (by kernel_rfl) (zw rfl rfl rfl rfl (.c rfl .n) ce91 (zUd (s:=t) (p:=p2) (n:=n2) (cap:=c2) (l:=l2) (hn:=by assumption) (hln:=by first|rfl|assumption|omega|(rw [Big.zQ];omega)|(decide +kernel))) (.c (j:=3) rfl .n) ?_)
 rintro ⟨p27,c28⟩ -
 dsimp only [List.append_eq,List.nil_append,List.cons_append]
 refine zG 7 (by kernel_rfl) (zw rfl rfl rfl rfl (.c rfl .n) ce91 (zkd (z:= - Big.raw t l2) (p:=p27) (cap:=c28) (hln:=by first|rfl|assumption|omega|(rw [Big.zQ];omega)|(decide +kernel))) (.c (j:=0) rfl .n) ?_)
 rintro ⟨p29,c210⟩ -
 dsimp only [List.append_eq,List.nil_append,List.cons_append]
 refine d_pv 8 rfl rfl (by kernel_rfl) (by kernel_rfl) rfl rfl (zE zr42 rfl Tryz.underlying42 (.c sz40 (.c sz40 .n)) (.c rfl (.c rfl .n)) (.c rfl rfl rfl (.take (.take .nil)) (.c rfl rfl rfl (.skip (.skip (.take (.take .nil)))) .n)))<|zG 9 (by kernel_rfl) (zz (by kernel_rfl) rfl rfl rfl rfl rfl sz42 rfl (.take (.take (.take (.take .nil)))) ?_)
 refine zY (by kernel_rfl)<|zf<|zI ?_
 have hz1: - - Big.raw s l1=(Big.qv ((s,l1),(t,l2))).num:=by rw [Int.neg_neg];exact (Big.qv_parts hq).1.symm
 have hz2: - - Big.raw t l2=(((Big.qv ((s,l1),(t,l2))).den:Nat):Int):=by rw [Int.neg_neg];exact (Big.qv_parts hq).2.symm
 exact zB Tryz.results89 (p25,c26,p29,c210) trivial (zq 0 ty42 rfl rfl (.take (.take (.take (.take .nil))))) (by rw [hz1,hz2]) (ho:=(.n:PickO _ _ _)) ((.e (j:=2) rfl (by rw [hz1]) (.e (j:=0) rfl (by rw [hz2]) .n)):SelR _ _ _)
theorem zVd {s:Bool} {p1:Option Addr} {n1:Nat} {c1:Nat} {l1:List Int} {t:Bool} {p2:Option Addr} {n2:Nat} {c2:Nat} {l2:List Int} (hn1:l1.length=n1) (hn2:l2.length=n2) (hm1:n1≤1048576) (hm2:n2≤1048576) (hq:Big.qok ((s,l1),(t,l2))) (hl:Big.hq (Big.qv ((s,l1),(t,l2)))≤1048576):Con Tryz.prog 89 [.agg #[.bool (s),.slice (p1) (n1) (c1),.bool (t),.slice (p2) (n2) (c2)]] [] [slF (rI .u32) (p1) (c1) (l1),slF (rI .u32) (p2) (c2) (l2)] (Y:=(Wd)×(Wd)) (fun y=>True) (fun y=> .agg #[y.1.b,y.1.l,y.2.b,y.2.l]) (fun y=>[]) (fun y=>[qF true y.1 y.2 (Big.qv ((s,l1),(t,l2)))]):=by
  exact con_qr (zze hn1 hn2 hm1 hm2 hq) rfl rfl hl
theorem zIc {z:Int} (hz: -9223372036854775808≤z∧z≤9223372036854775807):Con Tryz.prog 41 [.int .i64 z] [] [] (Y:=Wd×Wd) (fun y=>True) (fun y=> .agg #[y.1.b,y.1.l,y.2.b,y.2.l]) (fun y=>[]) (fun y=>[qF true y.1 y.2 (z:Rat)]):=by
 refine zr Tryz.func41 rfl rfl rfl (fun c=> ?_)
 show RunC _ _ _ _ _ [(0,.int .i64 z)] [] []
 refine zi<|zc<|zJ rfl rfl (zu zr42 rfl) (fun b1=> ?_)
 refine zj<|zf<|zi<|zc<|r_pv rfl rfl (zb rfl)<|zx rfl rfl (.c rfl .n) ce68 (zid (z:=z) (hz:=by assumption)) (.n) ?_
 rintro w32 -
 dsimp only [List.append_eq,List.nil_append,List.cons_append]
 refine zx rfl rfl (.c rfl .n) ce68 (zid (z:=1) (hz:=by first|rfl|assumption|omega|(rw [Big.zQ];omega)|(decide +kernel))) (.n) ?_
 rintro w33 -
 dsimp only [List.append_eq,List.nil_append,List.cons_append]
 refine r_pv rfl rfl (zE zr42 rfl Tryz.underlying42 (.c sz40 (.c sz40 .n)) (.c rfl (.c rfl .n)) (.c rfl rfl rfl (.take (.take .nil)) (.c rfl rfl rfl (.skip (.skip (.take (.take .nil)))) .n)))<|zl 0 rfl rfl rfl rfl rfl sz42 rfl (.take (.take (.take (.take .nil)))) .z<|zj<|zf<|zI<|zib (qF true w32 w33 (z:Rat)) (qF_close 1 0 rfl rfl (by exact ⟨(Rat.num_intCast z).symm,by rw [Rat.den_intCast];rfl,Nat.le_trans (Big.hq_64 hz.1 hz.2) (by decide)⟩)) ?_
 exact zB Tryz.results41 (w32,w33) trivial (zq 0 ty42 rfl rfl (.take (.take (.take (.take .nil))))) rfl (ho:=(.n:PickO _ _ _)) ((.c (j:=0) rfl .n):SelR _ _ _)
theorem zAe {s:Bool} {p1:Option Addr} {n1:Nat} {c1:Nat} {l1:List Int} {t:Bool} {p2:Option Addr} {n2:Nat} {c2:Nat} {l2:List Int} (hn1:l1.length=n1) (hn2:l2.length=n2) (hm1:n1≤1048576) (hm2:n2≤1048576):Con Tryz.prog 63 [.agg #[.bool s,.slice p1 n1 c1,.bool t,.slice p2 n2 c2]] [] [slF (rI .u32) p1 c1 l1,slF (rI .u32) p2 c2 l2] (Y:=Wd×Wd) (fun y=>True) (fun y=> .agg #[y.1.b,y.1.l,y.2.b,y.2.l]) (fun y=>[]) (fun y=>[qF true y.1 y.2 (Big.qv ((s,l1),(t,l2)))]):=by
 refine zr Tryz.func63 rfl rfl rfl (fun c=> ?_)
 show RunC _ _ _ _ _ [(0,.agg #[.bool s,.slice p1 n1 c1,.bool t,.slice p2 n2 c2])] [] [slF (rI .u32) p1 c1 l1,slF (rI .u32) p2 c2 l2]
 refine zba 0 rfl (fun hL0=> ?_)
 refine zUa 0 rfl (fun hE0=> ?_)
 refine zba 1 rfl (fun hL1=> ?_)
 refine zUa 1 rfl (fun hE1=> ?_)
 have hnn1:Big.nn l1:=fun g hg=>(zy.1 (hE0 g hg)).1
 have hnn2:Big.nn l2:=fun g hg=>(zy.1 (hE1 g hg)).1
 have hb1:Big.ln (Big.raw s l1)≤n1:=by have:=Big.zVa (s:=s) hnn1;omega
 have hb2:Big.ln (Big.raw t l2)≤n2:=by have:=Big.zVa (s:=t) hnn2;omega
 refine zi<|zc<|zJ rfl rfl (zT rfl rfl) (fun b1=> ?_)
 refine zJ rfl rfl (zu zr42 rfl) (fun b2=> ?_)
 refine zj<|zf<|zi<|zi<|zc<|r_u rfl rfl (zg 1 ty42 rfl rfl (.take (.take (.take (.take .nil)))))<|zL rfl rfl (.c rfl .n) ce88 (zye (s:=s) (p1:=p1) (n1:=n1) (c1:=c1) (l1:=l1) (t:=t) (p2:=p2) (n2:=n2) (c2:=c2) (l2:=l2) (hn1:=by assumption) (hn2:=by assumption) (hm1:=by assumption) (hm2:=by assumption)) (.c (j:=0) rfl (.c (j:=1) rfl .n))<|zj<|zf<|zK rfl (fun hq=> ?_) (fun hq=> ?_)
 ·
  have hrp:=Big.raw_parts (x:=((s,l1),(t,l2))) hnn1 hnn2 hq
  have hqp:=Big.qv_parts (x:=((s,l1),(t,l2))) hq
  have hl:Big.hq (Big.qv ((s,l1),(t,l2)))≤1048576:=by unfold Big.hq;rw [hqp.1,hqp.2];dsimp only;omega
  refine zi<|zc<|r_u rfl rfl (zg 1 ty42 rfl rfl (.take (.take (.take (.take .nil)))))<|zx rfl rfl (.c rfl .n) ce89 (zVd (s:=s) (p1:=p1) (n1:=n1) (c1:=c1) (l1:=l1) (t:=t) (p2:=p2) (n2:=n2) (c2:=c2) (l2:=l2) (hn1:=by assumption) (hn2:=by assumption) (hm1:=by assumption) (hm2:=by assumption) (hq:=by first|rfl|assumption|omega|(rw [Big.zQ];omega)|(decide +kernel)) (hl:=by first|rfl|assumption|omega|(rw [Big.zQ];omega)|(decide +kernel))) (.c (j:=0) rfl (.c (j:=1) rfl .n)) ?_
  rintro ⟨w33,w44⟩ -
  dsimp only [List.append_eq,List.nil_append,List.cons_append]
  refine zl 0 rfl rfl rfl rfl rfl sz42 rfl (.take (.take (.take (.take .nil)))) .z<|zj<|zf<|zI<|zv ?_
  exact zB Tryz.results63 (w33,w44) trivial (zq 0 ty42 rfl rfl (.take (.take (.take (.take .nil))))) rfl (ho:=(.n:PickO _ _ _)) ((.c (j:=0) rfl .n):SelR _ _ _)
 ·
  have hz:=Big.qv_not (x:=((s,l1),(t,l2))) hq
  refine zD<|zf<|zi<|zc<|zx rfl rfl (.c rfl .n) ce41 (zIc (z:=0) (hz:=by first|rfl|assumption|omega|(rw [Big.zQ];omega)|(decide +kernel))) (.n) ?_
  rintro ⟨w35,w46⟩ -
  dsimp only [List.append_eq,List.nil_append,List.cons_append]
  refine zl 0 rfl rfl rfl rfl rfl sz42 rfl (.take (.take (.take (.take .nil)))) .z<|zj<|zf<|zI ?_
  exact zB Tryz.results63 (w35,w46) trivial (zq 0 ty42 rfl rfl (.take (.take (.take (.take .nil))))) rfl (ho:=(.n:PickO _ _ _)) ((.e (j:=0) rfl (by rw [hz];rfl) .n):SelR _ _ _)
theorem zXa {k1:Bool} {u1:Wd} {v1:Wd} {q1:Rat}:Con Tryz.prog 63 [.agg #[u1.b,u1.l,v1.b,v1.l]] [] [qF k1 u1 v1 (q1)] (Y:=(Wd)×(Wd)) (fun y=>True) (fun y=> .agg #[y.1.b,y.1.l,y.2.b,y.2.l]) (fun y=>[]) (fun y=>[qF true y.1 y.2 (q1)]):=by
  exact zUe (fun x hx hk h1 h2 hl=>by subst hx;exact zAe rfl rfl h1 h2)
theorem zFf {k1:Bool} {u1:Wd} {v1:Wd} {q1:Rat} (hl:Big.hq q1≤1048576):Con Tryz.prog 67 [.agg #[u1.b,u1.l,v1.b,v1.l]] [] [qF k1 u1 v1 q1] (Y:=Wd×Wd) (fun y=>True) (fun y=> .agg #[y.1.b,y.1.l,y.2.b,y.2.l]) (fun y=>[]) (fun y=>[qF true y.1 y.2 (- q1)]):=by
 refine zr Tryz.func67 rfl rfl rfl (fun c=> ?_)
 show RunC _ _ _ _ _ [(0,.agg #[u1.b,u1.l,v1.b,v1.l])] [] [qF k1 u1 v1 q1]
 have a1:=Big.hq_num q1
 have a2:=Big.hq_den q1
 refine zi<|zc<|zJ rfl rfl (zT rfl rfl) (fun b1=> ?_)
 refine zJ rfl rfl (zu zr42 rfl) (fun b2=> ?_)
 refine zj<|zf<|zi<|zc<|r_u rfl rfl (zg 1 ty42 rfl rfl (.take (.take (.take (.take .nil)))))<|zx rfl rfl (.c rfl .n) ce63 (zXa (k1:=k1) (u1:=u1) (v1:=v1) (q1:=q1)) (.c (j:=0) rfl .n) ?_
 rintro ⟨w33,w44⟩ -
 dsimp only [List.append_eq,List.nil_append,List.cons_append]
 refine zl 1 rfl rfl rfl rfl rfl sz42 rfl (.take (.take (.take (.take .nil)))) (.s .z)<|zj<|zf<|zi<|zaa (OW:=[boxA b2 42 [.bool false,.slice none 0 0,.bool false,.slice none 0 0]]) (O:=[boxA b1 42 [w33.b,w33.l,w44.b,w44.l]]) 6 mixed (.then .ret) (by kernel_rfl)<|d_pv 0 rfl rfl (by kernel_rfl) (by kernel_rfl) rfl rfl (zh Tryz.underlying42 rfl sz40 rfl rfl)<|d_uw 1 rfl rfl (by kernel_rfl) (by kernel_rfl) (by kernel_rfl) rfl rfl (zg 1 ty40 rfl rfl (.take (.take .nil)))<|d_pv 3 rfl rfl (by kernel_rfl) (by kernel_rfl) rfl rfl (zh Tryz.underlying42 rfl sz40 rfl rfl)<|d_uw 4 rfl rfl (by kernel_rfl) (by kernel_rfl) (by kernel_rfl) rfl rfl (zg 1 ty40 rfl rfl (.skip (.skip (.take (.take .nil)))))<|zBb (qF_open 0 rfl) (fun _ _=> ?_)
 refine zG 2 (by kernel_rfl) (zw rfl rfl rfl rfl (.c rfl .n) ce91 (zld (w1:=w33) (x1:=(q1).num) (hln:=by first|rfl|assumption|omega|(rw [Big.zQ];omega)|(decide +kernel))) (.c (j:=0) rfl .n) ?_)
 rintro w35 -
 dsimp only [List.append_eq,List.nil_append,List.cons_append]
 refine d_pv 5 rfl rfl (by kernel_rfl) (by kernel_rfl) rfl rfl (zE zr42 rfl Tryz.underlying42 (.c sz40 (.c sz40 .n)) (.c rfl (.c rfl .n)) (.c rfl rfl rfl (.take (.take .nil)) (.c rfl rfl rfl (.skip (.skip (.take (.take .nil)))) .n)))<|zG 6 (by kernel_rfl) (zz (by kernel_rfl) rfl rfl rfl rfl rfl sz42 rfl (.take (.take (.take (.take .nil)))) ?_)
 refine zY (by kernel_rfl)<|zf<|zI<|zib (qF true w35 w44 (- q1)) (qF_close 0 2 rfl rfl (by exact ⟨(Rat.neg_num q1).symm,by rw [Rat.neg_den],by rw [Big.hq_neg];exact hl⟩)) ?_
 exact zB Tryz.results67 (w35,w44) trivial (zq 0 ty42 rfl rfl (.take (.take (.take (.take .nil))))) rfl (ho:=(.n:PickO _ _ _)) ((.c (j:=0) rfl .n):SelR _ _ _)
theorem zec {k1:Bool} {u1:Wd} {v1:Wd} {q1:Rat} {k2:Bool} {u2:Wd} {v2:Wd} {q2:Rat} (hl:Big.hq q1+Big.hq q2+1≤1048576):Con Tryz.prog 39 [.agg #[u1.b,u1.l,v1.b,v1.l],.agg #[u2.b,u2.l,v2.b,v2.l]] [] [qF k1 u1 v1 q1,qF k2 u2 v2 q2] (Y:=Wd×Wd) (fun y=>True) (fun y=> .agg #[y.1.b,y.1.l,y.2.b,y.2.l]) (fun y=>[]) (fun y=>[qF true y.1 y.2 (q1+q2)]):=by
 refine zr Tryz.func39 rfl rfl rfl (fun c=> ?_)
 show RunC _ _ _ _ _ [(0,.agg #[u1.b,u1.l,v1.b,v1.l]),(1,.agg #[u2.b,u2.l,v2.b,v2.l])] [] [qF k1 u1 v1 q1,qF k2 u2 v2 q2]
 have a1:=Big.hq_num q1
 have a2:=Big.hq_den q1
 have a3:=Big.hq_num q2
 have a4:=Big.hq_den q2
 have b1:=Big.zIa q1.num q2.den
 have b2:=Big.zIa q2.num q1.den
 have b3:=Big.zoc (q1.num*q2.den) (q2.num*q1.den)
 have b4:=Big.zIa (q1.den:Int) q2.den
 have b5:=Big.zIa q1.num q2.num
 refine zi<|zc<|zJ rfl rfl (zT rfl rfl) (fun b1=> ?_)
 refine zJ rfl rfl (zT rfl rfl) (fun b2=> ?_)
 refine zJ rfl rfl (zu zr42 rfl) (fun b3=> ?_)
 refine zj<|zf<|zi<|zqa (.c (i:=2) rfl (.c (i:=1) rfl (.c (i:=0) rfl .n)))<|zaa (OW:=[boxA b1 42 [u1.b,u1.l,v1.b,v1.l],boxA b2 42 [u2.b,u2.l,v2.b,v2.l]]) (O:=[boxA b3 42 [.bool false,.slice none 0 0,.bool false,.slice none 0 0]]) 4 mixed (.then .ret) (by kernel_rfl)<|d_uw 0 rfl rfl (by kernel_rfl) (by kernel_rfl) (by kernel_rfl) rfl rfl (zg 0 ty42 rfl rfl (.take (.take (.take (.take .nil)))))<|d_uw 2 rfl rfl (by kernel_rfl) (by kernel_rfl) (by kernel_rfl) rfl rfl (zg 1 ty42 rfl rfl (.take (.take (.take (.take .nil)))))<|zG 1 (by kernel_rfl) (zw rfl rfl rfl rfl (.c rfl .n) ce63 (zXa (k1:=k1) (u1:=u1) (v1:=v1) (q1:=q1)) (.c (j:=0) rfl .n) ?_)
 rintro ⟨w34,w45⟩ -
 dsimp only [List.append_eq,List.nil_append,List.cons_append]
 refine zG 3 (by kernel_rfl) (zw rfl rfl rfl rfl (.c rfl .n) ce63 (zXa (k1:=k2) (u1:=u2) (v1:=v2) (q1:=q2)) (.c (j:=2) rfl .n) ?_)
 rintro ⟨w36,w47⟩ -
 dsimp only [List.append_eq,List.nil_append,List.cons_append]
 refine zG 4 (by kernel_rfl) (zz (by kernel_rfl) rfl rfl rfl rfl rfl sz42 rfl (.take (.take (.take (.take .nil)))) ?_)
 refine zGa (zga (i:=1) rfl)<|zG 5 (by kernel_rfl) (zz (by kernel_rfl) rfl rfl rfl rfl rfl sz42 rfl (.take (.take (.take (.take .nil)))) ?_)
 refine zY (by kernel_rfl)<|zf<|zi<|zqa (.c (i:=2) rfl (.c (i:=0) rfl (.c (i:=0) rfl .n)))<|zaa (OW:=[boxA b3 42 [.bool false,.slice none 0 0,.bool false,.slice none 0 0]]) (O:=[boxA b2 42 [w36.b,w36.l,w47.b,w47.l],boxA b1 42 [w34.b,w34.l,w45.b,w45.l]]) 17 mixed (.then .ret) (by kernel_rfl)<|d_pv 0 rfl rfl (by kernel_rfl) (by kernel_rfl) rfl rfl (zh Tryz.underlying42 rfl sz40 rfl rfl)<|d_uw 1 rfl rfl (by kernel_rfl) (by kernel_rfl) (by kernel_rfl) rfl rfl (zg 2 ty40 rfl rfl (.take (.take .nil)))<|d_pv 2 rfl rfl (by kernel_rfl) (by kernel_rfl) rfl rfl (zh Tryz.underlying42 rfl sz40 rfl rfl)<|d_uw 3 rfl rfl (by kernel_rfl) (by kernel_rfl) (by kernel_rfl) rfl rfl (zg 1 ty40 rfl rfl (.skip (.skip (.take (.take .nil)))))<|d_pv 5 rfl rfl (by kernel_rfl) (by kernel_rfl) rfl rfl (zh Tryz.underlying42 rfl sz40 rfl rfl)<|d_uw 6 rfl rfl (by kernel_rfl) (by kernel_rfl) (by kernel_rfl) rfl rfl (zg 1 ty40 rfl rfl (.take (.take .nil)))<|d_pv 7 rfl rfl (by kernel_rfl) (by kernel_rfl) rfl rfl (zh Tryz.underlying42 rfl sz40 rfl rfl)<|d_uw 8 rfl rfl (by kernel_rfl) (by kernel_rfl) (by kernel_rfl) rfl rfl (zg 2 ty40 rfl rfl (.skip (.skip (.take (.take .nil)))))<|d_pv 11 rfl rfl (by kernel_rfl) (by kernel_rfl) rfl rfl (zh Tryz.underlying42 rfl sz40 rfl rfl)<|d_uw 12 rfl rfl (by kernel_rfl) (by kernel_rfl) (by kernel_rfl) rfl rfl (zg 2 ty40 rfl rfl (.skip (.skip (.take (.take .nil)))))<|d_pv 13 rfl rfl (by kernel_rfl) (by kernel_rfl) rfl rfl (zh Tryz.underlying42 rfl sz40 rfl rfl)<|d_uw 14 rfl rfl (by kernel_rfl) (by kernel_rfl) (by kernel_rfl) rfl rfl (zg 1 ty40 rfl rfl (.skip (.skip (.take (.take .nil)))))<|zBb (qF_open 1 rfl) (fun _ _=> ?_)
 refine zBb (qF_open 2 rfl) (fun _ _=> ?_)
 refine zG 4 (by kernel_rfl) (zw rfl rfl rfl rfl (.c rfl (.c rfl .n)) ce65 (zyb (w1:=w34) (w2:=w47) (x1:=(q1).num) (x2:=(((q2).den:Nat):Int)) (hb1:=by first|rfl|assumption|omega|(rw [Big.zQ];omega)|(decide +kernel)) (hb2:=by first|rfl|assumption|omega|(rw [Big.zQ];omega)|(decide +kernel))) (.c (j:=2) rfl (.c (j:=1) rfl .n)) ?_)
 rintro w38 -
 dsimp only [List.append_eq,List.nil_append,List.cons_append]
 refine zG 9 (by kernel_rfl) (zw rfl rfl rfl rfl (.c rfl (.c rfl .n)) ce65 (zyb (w1:=w36) (w2:=w45) (x1:=(q2).num) (x2:=(((q1).den:Nat):Int)) (hb1:=by first|rfl|assumption|omega|(rw [Big.zQ];omega)|(decide +kernel)) (hb2:=by first|rfl|assumption|omega|(rw [Big.zQ];omega)|(decide +kernel))) (.c (j:=1) rfl (.c (j:=4) rfl .n)) ?_)
 rintro w39 -
 dsimp only [List.append_eq,List.nil_append,List.cons_append]
 refine zG 10 (by kernel_rfl) (zw rfl rfl rfl rfl (.c rfl (.c rfl .n)) ce66 (zBf (w1:=w38) (w2:=w39) (x1:=((q1).num)*(((q2).den:Nat):Int)) (x2:=((q2).num)*(((q1).den:Nat):Int)) (hb1:=by first|rfl|assumption|omega|(rw [Big.zQ];omega)|(decide +kernel)) (hb2:=by first|rfl|assumption|omega|(rw [Big.zQ];omega)|(decide +kernel))) (.c (j:=1) rfl (.c (j:=0) rfl .n)) ?_)
 rintro w310 -
 dsimp only [List.append_eq,List.nil_append,List.cons_append]
 refine zG 15 (by kernel_rfl) (zw rfl rfl rfl rfl (.c rfl (.c rfl .n)) ce65 (zyb (w1:=w45) (w2:=w47) (x1:=(((q1).den:Nat):Int)) (x2:=(((q2).den:Nat):Int)) (hb1:=by first|rfl|assumption|omega|(rw [Big.zQ];omega)|(decide +kernel)) (hb2:=by first|rfl|assumption|omega|(rw [Big.zQ];omega)|(decide +kernel))) (.c (j:=6) rfl (.c (j:=4) rfl .n)) ?_)
 rintro w311 -
 dsimp only [List.append_eq,List.nil_append,List.cons_append]
 refine zG 16 (by kernel_rfl) (zw rfl rfl rfl rfl (.c rfl (.c rfl .n)) ce64 (zRb (w1:=w310) (w2:=w311) (x1:=(((q1).num)*(((q2).den:Nat):Int))+(((q2).num)*(((q1).den:Nat):Int))) (x2:=(((q1).den:Nat):Int)*(((q2).den:Nat):Int)) (hl1:=by first|rfl|assumption|omega|(rw [Big.zQ];omega)|(decide +kernel)) (hl2:=by first|rfl|assumption|omega|(rw [Big.zQ];omega)|(decide +kernel)) (hd:=by exact Int.mul_ne_zero (Big.den_ne q1) (Big.den_ne q2))) (.c (j:=1) rfl (.c (j:=0) rfl .n)) ?_)
 rintro ⟨w312,w413⟩ -
 dsimp only [List.append_eq,List.nil_append,List.cons_append]
 refine zG 17 (by kernel_rfl) (zz (by kernel_rfl) rfl rfl rfl rfl rfl sz42 rfl (.take (.take (.take (.take .nil)))) ?_)
 refine zY (by kernel_rfl)<|zf<|zI ?_
 exact zB Tryz.results39 (w312,w413) trivial (zq 0 ty42 rfl rfl (.take (.take (.take (.take .nil))))) rfl (ho:=(.n:PickO _ _ _)) ((.e (j:=0) rfl (by rw [Big.add_parts]) .n):SelR _ _ _)
theorem zfc {k1:Bool} {u1:Wd} {v1:Wd} {q1:Rat} {k2:Bool} {u2:Wd} {v2:Wd} {q2:Rat} (hl:Big.hq q1+Big.hq q2+1≤1048576):Con Tryz.prog 38 [.agg #[u1.b,u1.l,v1.b,v1.l],.agg #[u2.b,u2.l,v2.b,v2.l]] [] [qF k1 u1 v1 q1,qF k2 u2 v2 q2] (Y:=Wd×Wd) (fun y=>True) (fun y=> .agg #[y.1.b,y.1.l,y.2.b,y.2.l]) (fun y=>[]) (fun y=>[qF true y.1 y.2 (q1*q2)]):=by
 refine zr Tryz.func38 rfl rfl rfl (fun c=> ?_)
 show RunC _ _ _ _ _ [(0,.agg #[u1.b,u1.l,v1.b,v1.l]),(1,.agg #[u2.b,u2.l,v2.b,v2.l])] [] [qF k1 u1 v1 q1,qF k2 u2 v2 q2]
 have a1:=Big.hq_num q1
 have a2:=Big.hq_den q1
 have a3:=Big.hq_num q2
 have a4:=Big.hq_den q2
 have b1:=Big.zIa q1.num q2.den
 have b2:=Big.zIa q2.num q1.den
 have b3:=Big.zoc (q1.num*q2.den) (q2.num*q1.den)
 have b4:=Big.zIa (q1.den:Int) q2.den
 have b5:=Big.zIa q1.num q2.num
 refine zi<|zc<|zJ rfl rfl (zT rfl rfl) (fun b1=> ?_)
 refine zJ rfl rfl (zT rfl rfl) (fun b2=> ?_)
 refine zJ rfl rfl (zu zr42 rfl) (fun b3=> ?_)
 refine zj<|zf<|zi<|zqa (.c (i:=2) rfl (.c (i:=1) rfl (.c (i:=0) rfl .n)))<|zaa (OW:=[boxA b1 42 [u1.b,u1.l,v1.b,v1.l],boxA b2 42 [u2.b,u2.l,v2.b,v2.l]]) (O:=[boxA b3 42 [.bool false,.slice none 0 0,.bool false,.slice none 0 0]]) 4 mixed (.then .ret) (by kernel_rfl)<|d_uw 0 rfl rfl (by kernel_rfl) (by kernel_rfl) (by kernel_rfl) rfl rfl (zg 0 ty42 rfl rfl (.take (.take (.take (.take .nil)))))<|d_uw 2 rfl rfl (by kernel_rfl) (by kernel_rfl) (by kernel_rfl) rfl rfl (zg 1 ty42 rfl rfl (.take (.take (.take (.take .nil)))))<|zG 1 (by kernel_rfl) (zw rfl rfl rfl rfl (.c rfl .n) ce63 (zXa (k1:=k1) (u1:=u1) (v1:=v1) (q1:=q1)) (.c (j:=0) rfl .n) ?_)
 rintro ⟨w34,w45⟩ -
 dsimp only [List.append_eq,List.nil_append,List.cons_append]
 refine zG 3 (by kernel_rfl) (zw rfl rfl rfl rfl (.c rfl .n) ce63 (zXa (k1:=k2) (u1:=u2) (v1:=v2) (q1:=q2)) (.c (j:=2) rfl .n) ?_)
 rintro ⟨w36,w47⟩ -
 dsimp only [List.append_eq,List.nil_append,List.cons_append]
 refine zG 4 (by kernel_rfl) (zz (by kernel_rfl) rfl rfl rfl rfl rfl sz42 rfl (.take (.take (.take (.take .nil)))) ?_)
 refine zGa (zga (i:=1) rfl)<|zG 5 (by kernel_rfl) (zz (by kernel_rfl) rfl rfl rfl rfl rfl sz42 rfl (.take (.take (.take (.take .nil)))) ?_)
 refine zY (by kernel_rfl)<|zf<|zi<|zqa (.c (i:=2) rfl (.c (i:=0) rfl (.c (i:=0) rfl .n)))<|zaa (OW:=[boxA b3 42 [.bool false,.slice none 0 0,.bool false,.slice none 0 0]]) (O:=[boxA b2 42 [w36.b,w36.l,w47.b,w47.l],boxA b1 42 [w34.b,w34.l,w45.b,w45.l]]) 11 mixed (.then .ret) (by kernel_rfl)<|d_pv 0 rfl rfl (by kernel_rfl) (by kernel_rfl) rfl rfl (zh Tryz.underlying42 rfl sz40 rfl rfl)<|d_uw 1 rfl rfl (by kernel_rfl) (by kernel_rfl) (by kernel_rfl) rfl rfl (zg 2 ty40 rfl rfl (.take (.take .nil)))<|d_pv 2 rfl rfl (by kernel_rfl) (by kernel_rfl) rfl rfl (zh Tryz.underlying42 rfl sz40 rfl rfl)<|d_uw 3 rfl rfl (by kernel_rfl) (by kernel_rfl) (by kernel_rfl) rfl rfl (zg 1 ty40 rfl rfl (.take (.take .nil)))<|d_pv 5 rfl rfl (by kernel_rfl) (by kernel_rfl) rfl rfl (zh Tryz.underlying42 rfl sz40 rfl rfl)<|d_uw 6 rfl rfl (by kernel_rfl) (by kernel_rfl) (by kernel_rfl) rfl rfl (zg 2 ty40 rfl rfl (.skip (.skip (.take (.take .nil)))))<|d_pv 7 rfl rfl (by kernel_rfl) (by kernel_rfl) rfl rfl (zh Tryz.underlying42 rfl sz40 rfl rfl)<|d_uw 8 rfl rfl (by kernel_rfl) (by kernel_rfl) (by kernel_rfl) rfl rfl (zg 1 ty40 rfl rfl (.skip (.skip (.take (.take .nil)))))<|zBb (qF_open 1 rfl) (fun _ _=> ?_)
 refine zBb (qF_open 2 rfl) (fun _ _=> ?_)
 refine zG 4 (by kernel_rfl) (zw rfl rfl rfl rfl (.c rfl (.c rfl .n)) ce65 (zyb (w1:=w34) (w2:=w36) (x1:=(q1).num) (x2:=(q2).num) (hb1:=by first|rfl|assumption|omega|(rw [Big.zQ];omega)|(decide +kernel)) (hb2:=by first|rfl|assumption|omega|(rw [Big.zQ];omega)|(decide +kernel))) (.c (j:=2) rfl (.c (j:=0) rfl .n)) ?_)
 rintro w38 -
 dsimp only [List.append_eq,List.nil_append,List.cons_append]
 refine zG 9 (by kernel_rfl) (zw rfl rfl rfl rfl (.c rfl (.c rfl .n)) ce65 (zyb (w1:=w45) (w2:=w47) (x1:=(((q1).den:Nat):Int)) (x2:=(((q2).den:Nat):Int)) (hb1:=by first|rfl|assumption|omega|(rw [Big.zQ];omega)|(decide +kernel)) (hb2:=by first|rfl|assumption|omega|(rw [Big.zQ];omega)|(decide +kernel))) (.c (j:=4) rfl (.c (j:=2) rfl .n)) ?_)
 rintro w39 -
 dsimp only [List.append_eq,List.nil_append,List.cons_append]
 refine zG 10 (by kernel_rfl) (zw rfl rfl rfl rfl (.c rfl (.c rfl .n)) ce64 (zRb (w1:=w38) (w2:=w39) (x1:=((q1).num)*((q2).num)) (x2:=(((q1).den:Nat):Int)*(((q2).den:Nat):Int)) (hl1:=by first|rfl|assumption|omega|(rw [Big.zQ];omega)|(decide +kernel)) (hl2:=by first|rfl|assumption|omega|(rw [Big.zQ];omega)|(decide +kernel)) (hd:=by exact Int.mul_ne_zero (Big.den_ne q1) (Big.den_ne q2))) (.c (j:=1) rfl (.c (j:=0) rfl .n)) ?_)
 rintro ⟨w310,w411⟩ -
 dsimp only [List.append_eq,List.nil_append,List.cons_append]
 refine zG 11 (by kernel_rfl) (zz (by kernel_rfl) rfl rfl rfl rfl rfl sz42 rfl (.take (.take (.take (.take .nil)))) ?_)
 refine zY (by kernel_rfl)<|zf<|zI ?_
 exact zB Tryz.results38 (w310,w411) trivial (zq 0 ty42 rfl rfl (.take (.take (.take (.take .nil))))) rfl (ho:=(.n:PickO _ _ _)) ((.e (j:=0) rfl (by rw [Big.mul_parts]) .n):SelR _ _ _)
theorem zoe {k1:Bool} {u1:Wd} {v1:Wd} {q1:Rat} {k2:Bool} {u2:Wd} {v2:Wd} {q2:Rat} (hl:Big.hq q1+Big.hq q2+1≤1048576):Con Tryz.prog 40 [.agg #[u1.b,u1.l,v1.b,v1.l],.agg #[u2.b,u2.l,v2.b,v2.l]] [] [qF k1 u1 v1 q1,qF k2 u2 v2 q2] (Y:=Wd×Wd) (fun y=>True) (fun y=> .agg #[y.1.b,y.1.l,y.2.b,y.2.l]) (fun y=>[]) (fun y=>[qF true y.1 y.2 (q1 - q2)]):=by
 refine zr Tryz.func40 rfl rfl rfl (fun c=> ?_)
 show RunC _ _ _ _ _ [(0,.agg #[u1.b,u1.l,v1.b,v1.l]),(1,.agg #[u2.b,u2.l,v2.b,v2.l])] [] [qF k1 u1 v1 q1,qF k2 u2 v2 q2]
 have a1:=Big.hq_num q1
 have a2:=Big.hq_den q1
 have a3:=Big.hq_num q2
 have a4:=Big.hq_den q2
 refine zi<|zc<|zJ rfl rfl (zT rfl rfl) (fun b1=> ?_)
 refine zJ rfl rfl (zT rfl rfl) (fun b2=> ?_)
 refine zJ rfl rfl (zu zr42 rfl) (fun b3=> ?_)
 refine zj<|zf<|zi<|zaa (OW:=[boxA b3 42 [.bool false,.slice none 0 0,.bool false,.slice none 0 0]]) (O:=[boxA b2 42 [u2.b,u2.l,v2.b,v2.l],boxA b1 42 [u1.b,u1.l,v1.b,v1.l]]) 4 mixed (.then .ret) (by kernel_rfl)<|d_uw 0 rfl rfl (by kernel_rfl) (by kernel_rfl) (by kernel_rfl) rfl rfl (zg 2 ty42 rfl rfl (.take (.take (.take (.take .nil)))))<|d_uw 1 rfl rfl (by kernel_rfl) (by kernel_rfl) (by kernel_rfl) rfl rfl (zg 1 ty42 rfl rfl (.take (.take (.take (.take .nil)))))<|zG 2 (by kernel_rfl) (zw rfl rfl rfl rfl (.c rfl .n) ce67 (zFf (k1:=k2) (u1:=u2) (v1:=v2) (q1:=q2) (hl:=by first|rfl|assumption|omega|(rw [Big.zQ];omega)|(decide +kernel)|(rw [Big.hq_neg];omega))) (.c (j:=1) rfl .n) ?_)
 rintro ⟨w34,w45⟩ -
 dsimp only [List.append_eq,List.nil_append,List.cons_append]
 refine zG 3 (by kernel_rfl) (zw rfl rfl rfl rfl (.c rfl (.c rfl .n)) ce39 (zec (k1:=k1) (u1:=u1) (v1:=v1) (q1:=q1) (k2:=true) (u2:=w34) (v2:=w45) (q2:= - q2) (hl:=by first|rfl|assumption|omega|(rw [Big.zQ];omega)|(decide +kernel)|(rw [Big.hq_neg];omega))) (.c (j:=1) rfl (.c (j:=0) rfl .n)) ?_)
 rintro ⟨w36,w47⟩ -
 dsimp only [List.append_eq,List.nil_append,List.cons_append]
 refine zG 4 (by kernel_rfl) (zz (by kernel_rfl) rfl rfl rfl rfl rfl sz42 rfl (.take (.take (.take (.take .nil)))) ?_)
 refine zY (by kernel_rfl)<|zf<|zI ?_
 exact zB Tryz.results40 (w36,w47) trivial (zq 0 ty42 rfl rfl (.take (.take (.take (.take .nil))))) rfl (ho:=(.n:PickO _ _ _)) ((.e (j:=0) rfl (by rw [Rat.sub_eq_add_neg]) .n):SelR _ _ _)
theorem zId {k1:Bool} {u1:Wd} {v1:Wd} {q1:Rat} {k2:Bool} {u2:Wd} {v2:Wd} {q2:Rat} (hl:Big.hq q1+Big.hq q2+1≤1048576):Con Tryz.prog 42 [.agg #[u1.b,u1.l,v1.b,v1.l],.agg #[u2.b,u2.l,v2.b,v2.l]] [] [qF k1 u1 v1 q1,qF k2 u2 v2 q2] (Y:=Unit) (fun y=>True) (fun y=> .int .i64 (Big.sgq (q1 - q2))) (fun y=>[]) (fun y=>[]):=by
 refine zr Tryz.func42 rfl rfl rfl (fun c=> ?_)
 show RunC _ _ _ _ _ [(0,.agg #[u1.b,u1.l,v1.b,v1.l]),(1,.agg #[u2.b,u2.l,v2.b,v2.l])] [] [qF k1 u1 v1 q1,qF k2 u2 v2 q2]
 have a1:=Big.hq_num q1
 have a2:=Big.hq_den q1
 have a3:=Big.hq_num q2
 have a4:=Big.hq_den q2
 have b1:=Big.zIa q1.num q2.den
 have b2:=Big.zIa q2.num q1.den
 have b3:=Big.zoc (q1.num*q2.den) (q2.num*q1.den)
 have b4:=Big.zIa (q1.den:Int) q2.den
 have b5:=Big.zIa q1.num q2.num
 refine zi<|zc<|zJ rfl rfl (zT rfl rfl) (fun b1=> ?_)
 refine zJ rfl rfl (zT rfl rfl) (fun b2=> ?_)
 refine r_pv rfl rfl (zd rfl)<|zj<|zf<|zi<|zqa (.c (i:=1) rfl (.c (i:=0) rfl .n))<|zaa (OW:=[boxA b1 42 [u1.b,u1.l,v1.b,v1.l],boxA b2 42 [u2.b,u2.l,v2.b,v2.l]]) (O:=[]) 4 mixed (.then .ret) (by kernel_rfl)<|d_uw 0 rfl rfl (by kernel_rfl) (by kernel_rfl) (by kernel_rfl) rfl rfl (zg 0 ty42 rfl rfl (.take (.take (.take (.take .nil)))))<|d_uw 2 rfl rfl (by kernel_rfl) (by kernel_rfl) (by kernel_rfl) rfl rfl (zg 1 ty42 rfl rfl (.take (.take (.take (.take .nil)))))<|zG 1 (by kernel_rfl) (zw rfl rfl rfl rfl (.c rfl .n) ce63 (zXa (k1:=k1) (u1:=u1) (v1:=v1) (q1:=q1)) (.c (j:=0) rfl .n) ?_)
 rintro ⟨w33,w44⟩ -
 dsimp only [List.append_eq,List.nil_append,List.cons_append]
 refine zG 3 (by kernel_rfl) (zw rfl rfl rfl rfl (.c rfl .n) ce63 (zXa (k1:=k2) (u1:=u2) (v1:=v2) (q1:=q2)) (.c (j:=2) rfl .n) ?_)
 rintro ⟨w35,w46⟩ -
 dsimp only [List.append_eq,List.nil_append,List.cons_append]
 refine zG 4 (by kernel_rfl) (zz (by kernel_rfl) rfl rfl rfl rfl rfl sz42 rfl (.take (.take (.take (.take .nil)))) ?_)
 refine zGa (zga (i:=1) rfl)<|zG 5 (by kernel_rfl) (zz (by kernel_rfl) rfl rfl rfl rfl rfl sz42 rfl (.take (.take (.take (.take .nil)))) ?_)
 refine zY (by kernel_rfl)<|zf<|zi<|zaa (OW:=[]) (O:=[boxA b2 42 [w35.b,w35.l,w46.b,w46.l],boxA b1 42 [w33.b,w33.l,w44.b,w44.l]]) 100000 mixed (.then .ret) (by kernel_rfl)<|d_pv 0 rfl rfl (by kernel_rfl) (by kernel_rfl) rfl rfl (zh Tryz.underlying42 rfl sz40 rfl rfl)<|d_u 1 rfl rfl (by kernel_rfl) (by kernel_rfl) rfl rfl (zg 1 ty40 rfl rfl (.take (.take .nil)))<|d_pv 2 rfl rfl (by kernel_rfl) (by kernel_rfl) rfl rfl (zh Tryz.underlying42 rfl sz40 rfl rfl)<|d_u 3 rfl rfl (by kernel_rfl) (by kernel_rfl) rfl rfl (zg 0 ty40 rfl rfl (.skip (.skip (.take (.take .nil)))))<|d_pv 5 rfl rfl (by kernel_rfl) (by kernel_rfl) rfl rfl (zh Tryz.underlying42 rfl sz40 rfl rfl)<|d_u 6 rfl rfl (by kernel_rfl) (by kernel_rfl) rfl rfl (zg 0 ty40 rfl rfl (.take (.take .nil)))<|d_pv 7 rfl rfl (by kernel_rfl) (by kernel_rfl) rfl rfl (zh Tryz.underlying42 rfl sz40 rfl rfl)<|d_u 8 rfl rfl (by kernel_rfl) (by kernel_rfl) rfl rfl (zg 1 ty40 rfl rfl (.skip (.skip (.take (.take .nil)))))<|zBb (qF_open 1 rfl) (fun _ _=> ?_)
 refine zBb (qF_open 2 rfl) (fun _ _=> ?_)
 refine zG 4 (by kernel_rfl) (zw rfl rfl rfl rfl (.c rfl (.c rfl .n)) ce65 (zyb (w1:=w33) (w2:=w46) (x1:=(q1).num) (x2:=(((q2).den:Nat):Int)) (hb1:=by first|rfl|assumption|omega|(rw [Big.zQ];omega)|(decide +kernel)) (hb2:=by first|rfl|assumption|omega|(rw [Big.zQ];omega)|(decide +kernel))) (.c (j:=2) rfl (.c (j:=1) rfl .n)) ?_)
 rintro w37 -
 dsimp only [List.append_eq,List.nil_append,List.cons_append]
 refine zG 9 (by kernel_rfl) (zw rfl rfl rfl rfl (.c rfl (.c rfl .n)) ce65 (zyb (w1:=w35) (w2:=w44) (x1:=(q2).num) (x2:=(((q1).den:Nat):Int)) (hb1:=by first|rfl|assumption|omega|(rw [Big.zQ];omega)|(decide +kernel)) (hb2:=by first|rfl|assumption|omega|(rw [Big.zQ];omega)|(decide +kernel))) (.c (j:=1) rfl (.c (j:=4) rfl .n)) ?_)
 rintro w38 -
 dsimp only [List.append_eq,List.nil_append,List.cons_append]
 refine zG 10 (by kernel_rfl) (zDb rfl rfl rfl rfl (.c rfl (.c rfl .n)) ce69 (zHd (w1:=w37) (w2:=w38) (x1:=((q1).num)*(((q2).den:Nat):Int)) (x2:=((q2).num)*(((q1).den:Nat):Int))) (.c (j:=1) rfl (.c (j:=0) rfl .n)) ?_)
 refine d_pv 11 rfl rfl (by kernel_rfl) (by kernel_rfl) rfl rfl (zd rfl)<|zY (by kernel_rfl)<|zf<|zI ?_
 exact zB Tryz.results42 () trivial (zt rfl) (by rw [Big.cmp_rat]) (ho:=(.n:PickO _ _ _)) (.n:SelR _ _ _)
theorem zJc {w1:Wd} {x1:Int}:Con Tryz.prog 109 [.agg #[w1.b,w1.l]] [] [zF w1 x1] (Y:=Wd) (fun y=>True) (fun y=> .agg #[y.b,y.l]) (fun y=>[]) (fun y=>[zF y x1]):=by
 refine zr Tryz.func109 rfl rfl rfl (fun c=> ?_)
 show RunC _ _ _ _ _ [(0,.agg #[w1.b,w1.l])] [] [zF w1 x1]
 refine zi<|zc<|zJ rfl rfl (zT rfl rfl) (fun b1=> ?_)
 refine zJ rfl rfl (zu zr40 rfl) (fun b2=> ?_)
 refine zj<|zf<|zi<|zi<|zc<|r_u rfl rfl (zg 1 ty40 rfl rfl (.take (.take .nil)))<|zL rfl rfl (.c rfl .n) ce113 (zwe (w1:=w1) (x1:=x1)) (.c (j:=0) rfl .n)<|zj<|zf<|zde rfl rfl<|zi<|zc<|r_u rfl rfl (zg 1 ty40 rfl rfl (.take (.take .nil)))<|zl 0 rfl rfl rfl rfl rfl sz40 rfl (.take (.take .nil)) .z<|zj<|zf<|zI<|zv ?_
 exact zB Tryz.results109 w1 trivial (zq 0 ty40 rfl rfl (.take (.take .nil))) rfl (ho:=(.n:PickO _ _ _)) ((.c (j:=0) rfl .n):SelR _ _ _)
theorem zXf {w1:Wd} {w2:Wd} {x1:Int} {x2:Int} (hl1:Big.ln x1≤1048576) (hl2:Big.ln x2≤1048576):Con Tryz.prog 84 [.agg #[w1.b,w1.l],.agg #[w2.b,w2.l]] [] [zF w1 x1,zF w2 x2] (Y:=Wd×Wd) (fun y=>True) (fun y=> .tuple #[.agg #[y.1.b,y.1.l,y.2.b,y.2.l],.int .i64 (if x2=0 then 14 else 0)]) (fun y=>[]) (fun y=>[qF (decide (x2≠0)) y.1 y.2 (Rat.divInt x1 x2)]):=by
 refine zr Tryz.func84 rfl rfl rfl (fun c=> ?_)
 show RunC _ _ _ _ _ [(0,.agg #[w1.b,w1.l]),(1,.agg #[w2.b,w2.l])] [] [zF w1 x1,zF w2 x2]
 refine zi<|zc<|zJ rfl rfl (zT rfl rfl) (fun b1=> ?_)
 refine zJ rfl rfl (zT rfl rfl) (fun b2=> ?_)
 refine zJ rfl rfl (zu zr42 rfl) (fun b3=> ?_)
 refine r_pv rfl rfl (zd rfl)<|zj<|zf<|zi<|zqa (.c (i:=2) rfl (.c (i:=1) rfl (.c (i:=0) rfl .n)))<|zaa (OW:=[boxA b1 40 [w1.b,w1.l],boxA b2 40 [w2.b,w2.l]]) (O:=[boxA b3 42 [.bool false,.slice none 0 0,.bool false,.slice none 0 0]]) 4 mixed (.then .ret) (by kernel_rfl)<|d_uw 0 rfl rfl (by kernel_rfl) (by kernel_rfl) (by kernel_rfl) rfl rfl (zg 0 ty40 rfl rfl (.take (.take .nil)))<|d_uw 2 rfl rfl (by kernel_rfl) (by kernel_rfl) (by kernel_rfl) rfl rfl (zg 1 ty40 rfl rfl (.take (.take .nil)))<|zG 1 (by kernel_rfl) (zw rfl rfl rfl rfl (.c rfl .n) ce109 (zJc (w1:=w1) (x1:=x1)) (.c (j:=0) rfl .n) ?_)
 rintro w34 -
 dsimp only [List.append_eq,List.nil_append,List.cons_append]
 refine zG 3 (by kernel_rfl) (zw rfl rfl rfl rfl (.c rfl .n) ce109 (zJc (w1:=w2) (x1:=x2)) (.c (j:=2) rfl .n) ?_)
 rintro w35 -
 dsimp only [List.append_eq,List.nil_append,List.cons_append]
 refine zG 4 (by kernel_rfl) (zz (by kernel_rfl) rfl rfl rfl rfl rfl sz40 rfl (.take (.take .nil)) ?_)
 refine zGa (zga (i:=1) rfl)<|zG 5 (by kernel_rfl) (zz (by kernel_rfl) rfl rfl rfl rfl rfl sz40 rfl (.take (.take .nil)) ?_)
 refine zY (by kernel_rfl)<|zf<|zi<|zi<|zc<|r_u rfl rfl (zg 0 ty40 rfl rfl (.take (.take .nil)))<|zL rfl rfl (.c rfl .n) ce90 (zFd (w1:=w35) (x1:=x2)) (.c (j:=0) rfl .n)<|r_pv rfl rfl (zza rfl rfl)<|zj<|zf<|zK rfl (fun hz0=> ?_) (fun hz0=> ?_)
 ·
  have hx0:x2=0:=Big.sign_zero.1 hz0
  refine zi<|zc<|r_pv rfl rfl (zE zr42 rfl Tryz.underlying42 (.c sz40 (.c sz40 .n)) .n .n)<|zl 2 rfl rfl rfl rfl rfl sz42 rfl (.take (.take (.take (.take .nil)))) (.s (.s .z))<|r_pv rfl rfl (zd rfl)<|zj<|zf<|zI<|zv<|zib (qF false wz wz 0) (fun g _=>qF_none g) ?_
  exact zpa Tryz.results84 (wz,wz) trivial (zq 2 ty42 rfl rfl (.take (.take (.take (.take .nil))))) (zt rfl) (by rw [if_pos hx0];rfl) (ho:=(.n:PickO _ _ _)) ((.e (j:=0) rfl (by rw [Big.divInt_nil hx0,decide_eq_false (not_not_intro hx0)]) .n):SelR _ _ _)
 ·
  have hx0:x2≠0:=fun e=>hz0 (Big.sign_zero.2 e)
  refine zD<|zf<|zi<|zc<|r_u rfl rfl (zg 1 ty40 rfl rfl (.take (.take .nil)))<|r_u rfl rfl (zg 0 ty40 rfl rfl (.take (.take .nil)))<|zx rfl rfl (.c rfl (.c rfl .n)) ce64 (zRb (w1:=w34) (w2:=w35) (x1:=x1) (x2:=x2) (hl1:=by assumption) (hl2:=by assumption) (hd:=by first|rfl|assumption|omega|(rw [Big.zQ];omega)|(decide +kernel))) (.c (j:=1) rfl (.c (j:=0) rfl .n)) ?_
  rintro ⟨w36,w47⟩ -
  dsimp only [List.append_eq,List.nil_append,List.cons_append]
  refine zl 2 rfl rfl rfl rfl rfl sz42 rfl (.take (.take (.take (.take .nil)))) (.s (.s .z))<|r_pv rfl rfl (zd rfl)<|zj<|zf<|zI ?_
  exact zpa Tryz.results84 (w36,w47) trivial (zq 2 ty42 rfl rfl (.take (.take (.take (.take .nil))))) (zt rfl) (by rw [if_neg hx0]) (ho:=(.n:PickO _ _ _)) ((.e (j:=0) rfl (by rw [decide_eq_true hx0]) .n):SelR _ _ _)
theorem zYf {z1:Int} {z2:Int} (hz1: -9223372036854775808≤z1∧z1≤9223372036854775807) (hz2: -9223372036854775808≤z2∧z2≤9223372036854775807):Con Tryz.prog 61 [.int .i64 z1,.int .i64 z2] [] [] (Y:=Wd×Wd) (fun y=>True) (fun y=> .tuple #[.agg #[y.1.b,y.1.l,y.2.b,y.2.l],.int .i64 (if z2=0 then 14 else 0)]) (fun y=>[]) (fun y=>[qF (decide (z2≠0)) y.1 y.2 (Rat.divInt z1 z2)]):=by
 refine zr Tryz.func61 rfl rfl rfl (fun c=> ?_)
 show RunC _ _ _ _ _ [(0,.int .i64 z1),(1,.int .i64 z2)] [] []
 have g1:=Big.zQd hz1.1 hz1.2
 have g2:=Big.zQd hz2.1 hz2.2
 refine zi<|zc<|zJ rfl rfl (zu zr42 rfl) (fun b1=> ?_)
 refine r_pv rfl rfl (zd rfl)<|zj<|zf<|zi<|zc<|r_pv rfl rfl (zb rfl)<|zx rfl rfl (.c rfl .n) ce68 (zid (z:=z1) (hz:=by assumption)) (.n) ?_
 rintro w32 -
 dsimp only [List.append_eq,List.nil_append,List.cons_append]
 refine r_pv rfl rfl (zb rfl)<|zx rfl rfl (.c rfl .n) ce68 (zid (z:=z2) (hz:=by assumption)) (.n) ?_
 rintro w33 -
 dsimp only [List.append_eq,List.nil_append,List.cons_append]
 refine zx rfl rfl (.c rfl (.c rfl .n)) ce84 (zXf (w1:=w32) (w2:=w33) (x1:=z1) (x2:=z2) (hl1:=by first|rfl|assumption|omega|(rw [Big.zQ];omega)|(decide +kernel)) (hl2:=by first|rfl|assumption|omega|(rw [Big.zQ];omega)|(decide +kernel))) (.c (j:=1) rfl (.c (j:=0) rfl .n)) ?_
 rintro ⟨w34,w45⟩ -
 dsimp only [List.append_eq,List.nil_append,List.cons_append]
 refine r_pv rfl rfl (zm rfl rfl)<|r_pv rfl rfl (zm rfl rfl)<|zl 0 rfl rfl rfl rfl rfl sz42 rfl (.take (.take (.take (.take .nil)))) .z<|r_pv rfl rfl (zd rfl)<|zj<|zf<|zI ?_
 exact zpa Tryz.results61 (w34,w45) trivial (zq 0 ty42 rfl rfl (.take (.take (.take (.take .nil))))) (zt rfl) rfl (ho:=(.n:PickO _ _ _)) ((.c (j:=0) rfl .n):SelR _ _ _)
theorem zff {z1:Int} {z2:Int} (hz1: -9223372036854775808≤z1∧z1≤9223372036854775807) (hz2: -9223372036854775808≤z2∧z2≤9223372036854775807) (hy:z2≠0):Con Tryz.prog 61 [.int .i64 (z1),.int .i64 (z2)] [] [] (Y:=(Wd)×(Wd)) (fun y=>True) (fun y=> .tuple #[.agg #[y.1.b,y.1.l,y.2.b,y.2.l],.int .i64 (0)]) (fun y=>[]) (fun y=>[qF true y.1 y.2 (Rat.divInt z1 z2)]):=by
  have h:=zYf hz1 hz2
  rw [if_neg hy,decide_eq_true hy] at h
  exact h
end Go.Proofs.YtefbbhiaalcjfaaGreat.Sp
namespace Go.Proofs.YtefbbhiaalcjfaaGreat.Sp
open Go
set_option linter.unusedVariables false
set_option maxRecDepth 100000
set_option maxHeartbeats 1000000
theorem zZc {z:Int} (hz: -9223372036854775808≤z∧z≤9223372036854775807):Con Tryz.prog 53 [.int .i64 z] [] [] (Y:=(Option Addr)×Nat) (fun y=>True) (fun y=> .agg #[.bool (decide (z<0)),.slice (y.1) ((Big.digs ((z).natAbs)).length) (y.2)]) (fun y=>[]) (fun y=>[slF (rI .u32) (y.1) (y.2) (Big.digs ((z).natAbs))]):=by
 refine zr Tryz.func53 rfl rfl rfl (fun c=> ?_)
 show RunC _ _ _ _ _ [(0,.int .i64 z)] [] []
 refine zi<|zc<|zJ rfl rfl (zu zr40 rfl) (fun b1=> ?_)
 refine zj<|zf<|zi<|zc<|r_pv rfl rfl (zb rfl)<|zx rfl rfl (.c rfl .n) ce79 (zWe (z:=z) (hz:=by assumption)) (.n) ?_
 rintro ⟨p22,c23⟩ -
 dsimp only [List.append_eq,List.nil_append,List.cons_append]
 refine zl 0 rfl rfl rfl rfl rfl sz40 rfl (.take (.take .nil)) .z<|zj<|zf<|zI ?_
 exact zB Tryz.results53 (p22,c23) trivial (zq 0 ty40 rfl rfl (.take (.take .nil))) rfl (ho:=(.n:PickO _ _ _)) ((.c (j:=0) rfl .n):SelR _ _ _)
theorem zAb {z:Int} (hz: -9223372036854775808≤z∧z≤9223372036854775807):Con Tryz.prog 53 [.int .i64 (z)] [] [] (Y:=(Wd)) (fun y=>True) (fun y=> .agg #[y.b,y.l]) (fun y=>[]) (fun y=>[zF y (z)]):=by
  exact zNb (zZc hz)
theorem zad {z:Int} (hz: -9223372036854775808≤z∧z≤9223372036854775807):Con Tryz.prog 75 [.int .i64 z] [] [] (Y:=Wd×Wd) (fun y=>True) (fun y=> .agg #[y.1.b,y.1.l,y.2.b,y.2.l]) (fun y=>[]) (fun y=>[qF true y.1 y.2 (z:Rat)]):=by
 refine zr Tryz.func75 rfl rfl rfl (fun c=> ?_)
 show RunC _ _ _ _ _ [(0,.int .i64 z)] [] []
 refine zi<|zc<|zJ rfl rfl (zu zr42 rfl) (fun b1=> ?_)
 refine zj<|zf<|zi<|zc<|r_pv rfl rfl (zb rfl)<|zx rfl rfl (.c rfl .n) ce53 (zAb (z:=z) (hz:=by assumption)) (.n) ?_
 rintro w32 -
 dsimp only [List.append_eq,List.nil_append,List.cons_append]
 refine zx rfl rfl (.c rfl .n) ce53 (zAb (z:=1) (hz:=by first|rfl|assumption|omega|(rw [Big.zQ];omega)|(decide +kernel))) (.n) ?_
 rintro w33 -
 dsimp only [List.append_eq,List.nil_append,List.cons_append]
 refine r_pv rfl rfl (zE zr42 rfl Tryz.underlying42 (.c sz40 (.c sz40 .n)) (.c rfl (.c rfl .n)) (.c rfl rfl rfl (.take (.take .nil)) (.c rfl rfl rfl (.skip (.skip (.take (.take .nil)))) .n)))<|zl 0 rfl rfl rfl rfl rfl sz42 rfl (.take (.take (.take (.take .nil)))) .z<|zj<|zf<|zI<|zib (qF true w32 w33 (z:Rat)) (qF_close 1 0 rfl rfl (by exact ⟨(Rat.num_intCast z).symm,by rw [Rat.den_intCast];rfl,Nat.le_trans (Big.hq_64 hz.1 hz.2) (by decide)⟩)) ?_
 exact zB Tryz.results75 (w32,w33) trivial (zq 0 ty42 rfl rfl (.take (.take (.take (.take .nil))))) rfl (ho:=(.n:PickO _ _ _)) ((.c (j:=0) rfl .n):SelR _ _ _)
theorem zpe {z:Int} (hz: -9223372036854775808≤z∧z≤9223372036854775807):Con Tryz.prog 47 [.int .i64 z] [] [] (Y:=Wd×Wd) (fun y=>True) (fun y=> .agg #[y.1.b,y.1.l,y.2.b,y.2.l]) (fun y=>[]) (fun y=>[qF true y.1 y.2 (z:Rat)]):=by
 refine zr Tryz.func47 rfl rfl rfl (fun c=> ?_)
 show RunC _ _ _ _ _ [(0,.int .i64 z)] [] []
 refine zi<|zc<|zJ rfl rfl (zu zr42 rfl) (fun b1=> ?_)
 refine zj<|zf<|zi<|zc<|r_pv rfl rfl (zb rfl)<|zx rfl rfl (.c rfl .n) ce75 (zad (z:=z) (hz:=by assumption)) (.n) ?_
 rintro ⟨w32,w43⟩ -
 dsimp only [List.append_eq,List.nil_append,List.cons_append]
 refine zl 0 rfl rfl rfl rfl rfl sz42 rfl (.take (.take (.take (.take .nil)))) .z<|zj<|zf<|zI ?_
 exact zB Tryz.results47 (w32,w43) trivial (zq 0 ty42 rfl rfl (.take (.take (.take (.take .nil))))) rfl (ho:=(.n:PickO _ _ _)) ((.c (j:=0) rfl .n):SelR _ _ _)
theorem zKc {s:Bool} {p1:Option Addr} {n1:Nat} {c1:Nat} {l1:List Int} {t:Bool} {p2:Option Addr} {n2:Nat} {c2:Nat} {l2:List Int} (hn1:l1.length=n1) (hn2:l2.length=n2) (hm1:n1≤1048576) (hm2:n2≤1048576):Con Tryz.prog 62 [.agg #[.bool s,.slice p1 n1 c1,.bool t,.slice p2 n2 c2]] [] [slF (rI .u32) p1 c1 l1,slF (rI .u32) p2 c2 l2] (Y:=Unit) (fun y=>True) (fun y=> .bool (decide (Big.qok ((s,l1),(t,l2))))) (fun y=>[]) (fun y=>[]):=by
 refine zr Tryz.func62 rfl rfl rfl (fun c=> ?_)
 show RunC _ _ _ _ _ [(0,.agg #[.bool s,.slice p1 n1 c1,.bool t,.slice p2 n2 c2])] [] [slF (rI .u32) p1 c1 l1,slF (rI .u32) p2 c2 l2]
 refine zba 0 rfl (fun hL0=> ?_)
 refine zUa 0 rfl (fun hE0=> ?_)
 refine zba 1 rfl (fun hL1=> ?_)
 refine zUa 1 rfl (fun hE1=> ?_)
 have hnn1:Big.nn l1:=fun g hg=>(zy.1 (hE0 g hg)).1
 have hnn2:Big.nn l2:=fun g hg=>(zy.1 (hE1 g hg)).1
 have hb1:Big.ln (Big.raw s l1)≤n1:=by have:=Big.zVa (s:=s) hnn1;omega
 have hb2:Big.ln (Big.raw t l2)≤n2:=by have:=Big.zVa (s:=t) hnn2;omega
 refine zi<|zc<|zJ rfl rfl (zT rfl rfl) (fun b1=> ?_)
 refine r_pv rfl rfl (zd rfl)<|zj<|zf<|zi<|zQa (X:=Unit) (fun x=>True) (fun x=>[(18,.bool (decide (¬(Big.canon s l1∧Big.canon t l2∧0<Big.raw t l2)))),(2,.bool false),(1,.pointer (some ⟨b1,0,none⟩))]) (fun x=>[boxA b1 42 [.bool s,.slice p1 n1 c1,.bool t,.slice p2 n2 c2]]) (fun x=>[slF (rI .u32) p1 c1 l1,slF (rI .u32) p2 c2 l2]) ?_ ?_
 ·
  refine zc<|r_pv rfl rfl (zh Tryz.underlying42 rfl sz40 rfl rfl)<|r_u rfl rfl (zg 0 ty40 rfl rfl (.take (.take .nil)))<|zL rfl rfl (.c rfl .n) ce85 (zjc (s:=s) (p:=p1) (n:=n1) (cap:=c1) (l:=l1) (hn:=by assumption)) (.c (j:=0) rfl .n)<|r_pv rfl rfl (zEa rfl)<|zO rfl rfl (zb rfl) (fun h2=> ?_) (fun h2=> ?_)
  ·
   refine za rfl rfl<|za rfl rfl<|za rfl rfl<|za rfl rfl<|r_pv rfl rfl (zk rfl rfl)<|r_pv rfl rfl (zb rfl)<|za rfl rfl<|za rfl rfl<|za rfl rfl<|za rfl rfl<|r_pv rfl rfl (zk rfl rfl)<|zj ?_
   exact zZ () (show True from by first|trivial|omega|simp_all) ((.e rfl (congrArg Value.bool (by simp_all)) (.c rfl (.c rfl .n))):SubM _ _) (ho:=((.c (i:=0) rfl .n):PickO _ _ _)) ((.of [0,1] rfl):SelR _ _ _)
  ·
   refine r_pv rfl rfl (zh Tryz.underlying42 rfl sz40 rfl rfl)<|r_u rfl rfl (zg 0 ty40 rfl rfl (.skip (.skip (.take (.take .nil)))))<|zL rfl rfl (.c rfl .n) ce85 (zjc (s:=t) (p:=p2) (n:=n2) (cap:=c2) (l:=l2) (hn:=by assumption)) (.c (j:=1) rfl .n)<|r_pv rfl rfl (zEa rfl)<|r_pv rfl rfl (zk rfl rfl)<|zO rfl rfl (zb rfl) (fun h3=> ?_) (fun h3=> ?_)
   ·
    refine za rfl rfl<|za rfl rfl<|za rfl rfl<|za rfl rfl<|r_pv rfl rfl (zk rfl rfl)<|zj ?_
    exact zZ () (show True from by first|trivial|omega|simp_all) ((.e rfl (congrArg Value.bool (by simp_all)) (.c rfl (.c rfl .n))):SubM _ _) (ho:=((.c (i:=0) rfl .n):PickO _ _ _)) ((.of [0,1] rfl):SelR _ _ _)
   ·
    refine r_pv rfl rfl (zh Tryz.underlying42 rfl sz40 rfl rfl)<|r_u rfl rfl (zg 0 ty40 rfl rfl (.skip (.skip (.take (.take .nil)))))<|zL rfl rfl (.c rfl .n) ce78 (zyd (s:=t) (p:=p2) (n:=n2) (cap:=c2) (l:=l2) (hn:=by assumption) (hln:=by first|rfl|assumption|omega|(rw [Big.zQ];omega)|(decide +kernel))) (.c (j:=1) rfl .n)<|r_pv rfl rfl (zVb rfl rfl)<|r_pv rfl rfl (zk rfl rfl)<|zj ?_
    exact zZ () (show True from by first|trivial|omega|simp_all) ((.e rfl (congrArg Value.bool (by exact decide_eq_decide.2 (Big.sgn_le (Decidable.not_not.1 ‹_›) (Decidable.not_not.1 ‹_›)))) (.c rfl (.c rfl .n))):SubM _ _) (ho:=((.c (i:=0) rfl .n):PickO _ _ _)) ((.of [0,1] rfl):SelR _ _ _)
 ·
  rintro ⟨⟩ -
  try dsimp only
  refine zK rfl (fun hc=> ?_) (fun hc=> ?_)
  ·
   refine zi<|zc<|r_pv rfl rfl (zd rfl)<|zj<|zf<|zI<|zv ?_
   exact zB Tryz.results62 () trivial (zt rfl) (congrArg Value.bool (decide_eq_false (fun h=>hc ⟨h.1,h.2.1,h.2.2.1⟩))) (ho:=(.n:PickO _ _ _)) (.n:SelR _ _ _)
  ·
   have hcc:=Decidable.not_not.1 hc
   have hgl:=Big.zwd (n:=Big.raw s l1) (d:=Big.raw t l2) (by omega)
   refine zD<|zf<|zi<|zc<|r_pv rfl rfl (zh Tryz.underlying42 rfl sz40 rfl rfl)<|r_u rfl rfl (zg 0 ty40 rfl rfl (.take (.take .nil)))<|r_pv rfl rfl (zh Tryz.underlying42 rfl sz40 rfl rfl)<|r_u rfl rfl (zg 0 ty40 rfl rfl (.skip (.skip (.take (.take .nil)))))<|zx rfl rfl (.c rfl (.c rfl .n)) ce87 (zje (s:=s) (p1:=p1) (n1:=n1) (c1:=c1) (l1:=l1) (t:=t) (p2:=p2) (n2:=n2) (c2:=c2) (l2:=l2) (hn1:=by assumption) (hn2:=by assumption) (hm1:=by first|rfl|assumption|omega|(rw [Big.zQ];omega)|(decide +kernel)) (hm2:=by first|rfl|assumption|omega|(rw [Big.zQ];omega)|(decide +kernel))) (.c (j:=0) rfl (.c (j:=1) rfl .n)) ?_
   rintro ⟨p34,c35⟩ -
   dsimp only [List.append_eq,List.nil_append,List.cons_append]
   refine zx rfl rfl (.c rfl .n) ce53 (zZc (z:=1) (hz:=by first|rfl|assumption|omega|(rw [Big.zQ];omega)|(decide +kernel))) (.n) ?_
   rintro ⟨p26,c27⟩ -
   dsimp only [List.append_eq,List.nil_append,List.cons_append]
   refine zL rfl rfl (.c rfl (.c rfl .n)) ce86 (zhd (x1:=((Nat.gcd (Big.raw s l1).natAbs (Big.raw t l2).natAbs:Nat):Int)) (x2:=1) (p1:=p34) (c1:=c35) (p2:=p26) (c2:=c27) (hb1:=by first|rfl|assumption|omega|(rw [Big.zQ];omega)|(decide +kernel)) (hb2:=by first|rfl|assumption|omega|(rw [Big.zQ];omega)|(decide +kernel))) (.c (j:=1) rfl (.c (j:=0) rfl .n))<|r_pv rfl rfl (zza rfl rfl)<|r_pv rfl rfl (zd rfl)<|zj<|zf<|zI ?_
   exact zB Tryz.results62 () trivial (zt rfl) (congrArg Value.bool (decide_eq_decide.2 (Big.qok_sub (x:=((s,l1),(t,l2))) (Decidable.not_not.1 hc)).symm)) (ho:=(.n:PickO _ _ _)) (.n:SelR _ _ _)
theorem zqc {u1:Wd} {v1:Wd} {q1:Rat}:Con Tryz.prog 62 [.agg #[u1.b,u1.l,v1.b,v1.l]] [] [qF true u1 v1 (q1)] (Y:=Unit) (fun y=>True) (fun y=> .bool true) (fun y=>[]) (fun y=>[]):=by
  exact zKf (fun x hx hk h1 h2=>by have h:= @zKc x.1.1 u1.p _ u1.c x.1.2 x.2.1 v1.p _ v1.c x.2.2 rfl rfl h1 h2;rw [decide_eq_true (hk rfl)] at h;exact h)
theorem zWd {s:Bool} {p1:Option Addr} {n1:Nat} {c1:Nat} {l1:List Int} {t:Bool} {p2:Option Addr} {n2:Nat} {c2:Nat} {l2:List Int} (hn1:l1.length=n1) (hn2:l2.length=n2) (hm1:n1≤1048576) (hm2:n2≤1048576):Con Tryz.prog 70 [.agg #[.bool s,.slice p1 n1 c1,.bool t,.slice p2 n2 c2]] [] [slF (rI .u32) p1 c1 l1,slF (rI .u32) p2 c2 l2] (Y:=Wd×Wd) (fun y=>True) (fun y=> .agg #[y.1.b,y.1.l,y.2.b,y.2.l]) (fun y=>[]) (fun y=>[qF true y.1 y.2 (Big.qv ((s,l1),(t,l2)))]):=by
 refine zr Tryz.func70 rfl rfl rfl (fun c=> ?_)
 show RunC _ _ _ _ _ [(0,.agg #[.bool s,.slice p1 n1 c1,.bool t,.slice p2 n2 c2])] [] [slF (rI .u32) p1 c1 l1,slF (rI .u32) p2 c2 l2]
 refine zba 0 rfl (fun hL0=> ?_)
 refine zUa 0 rfl (fun hE0=> ?_)
 refine zba 1 rfl (fun hL1=> ?_)
 refine zUa 1 rfl (fun hE1=> ?_)
 have hnn1:Big.nn l1:=fun g hg=>(zy.1 (hE0 g hg)).1
 have hnn2:Big.nn l2:=fun g hg=>(zy.1 (hE1 g hg)).1
 have hb1:Big.ln (Big.raw s l1)≤n1:=by have:=Big.zVa (s:=s) hnn1;omega
 have hb2:Big.ln (Big.raw t l2)≤n2:=by have:=Big.zVa (s:=t) hnn2;omega
 refine zi<|zc<|zJ rfl rfl (zT rfl rfl) (fun b1=> ?_)
 refine zJ rfl rfl (zu zr42 rfl) (fun b2=> ?_)
 refine zj<|zf<|zi<|zi<|zc<|r_u rfl rfl (zg 1 ty42 rfl rfl (.take (.take (.take (.take .nil)))))<|zL rfl rfl (.c rfl .n) ce62 (zKc (s:=s) (p1:=p1) (n1:=n1) (c1:=c1) (l1:=l1) (t:=t) (p2:=p2) (n2:=n2) (c2:=c2) (l2:=l2) (hn1:=by assumption) (hn2:=by assumption) (hm1:=by assumption) (hm2:=by assumption)) (.c (j:=0) rfl (.c (j:=1) rfl .n))<|zj<|zf<|zK rfl (fun hq=> ?_) (fun hq=> ?_)
 ·
  have hrp:=Big.raw_parts (x:=((s,l1),(t,l2))) hnn1 hnn2 hq
  have hqp:=Big.qv_parts (x:=((s,l1),(t,l2))) hq
  have hl:Big.hq (Big.qv ((s,l1),(t,l2)))≤1048576:=by unfold Big.hq;rw [hqp.1,hqp.2];dsimp only;omega
  refine zi<|zc<|r_u rfl rfl (zg 1 ty42 rfl rfl (.take (.take (.take (.take .nil)))))<|zl 0 rfl rfl rfl rfl rfl sz42 rfl (.take (.take (.take (.take .nil)))) .z<|zj<|zf<|zI<|zv<|zib (qF true ⟨s,p1,n1,c1⟩ ⟨t,p2,n2,c2⟩ (Big.qv ((s,l1),(t,l2)))) (fun g r=>qF_rawI 0 1 rfl rfl hn1 hn2 hm1 hm2 hq g r) ?_
  exact zB Tryz.results70 (⟨s,p1,n1,c1⟩,⟨t,p2,n2,c2⟩) trivial (zq 0 ty42 rfl rfl (.take (.take (.take (.take .nil))))) rfl (ho:=(.n:PickO _ _ _)) ((.c (j:=0) rfl .n):SelR _ _ _)
 ·
  have hz:=Big.qv_not (x:=((s,l1),(t,l2))) hq
  refine zD<|zf<|zi<|zc<|zx rfl rfl (.c rfl .n) ce75 (zad (z:=0) (hz:=by first|rfl|assumption|omega|(rw [Big.zQ];omega)|(decide +kernel))) (.n) ?_
  rintro ⟨w33,w44⟩ -
  dsimp only [List.append_eq,List.nil_append,List.cons_append]
  refine zl 0 rfl rfl rfl rfl rfl sz42 rfl (.take (.take (.take (.take .nil)))) .z<|zj<|zf<|zI ?_
  exact zB Tryz.results70 (w33,w44) trivial (zq 0 ty42 rfl rfl (.take (.take (.take (.take .nil))))) rfl (ho:=(.n:PickO _ _ _)) ((.e (j:=0) rfl (by rw [hz];rfl) .n):SelR _ _ _)
theorem zab {k1:Bool} {u1:Wd} {v1:Wd} {q1:Rat}:Con Tryz.prog 70 [.agg #[u1.b,u1.l,v1.b,v1.l]] [] [qF k1 u1 v1 (q1)] (Y:=(Wd)×(Wd)) (fun y=>True) (fun y=> .agg #[y.1.b,y.1.l,y.2.b,y.2.l]) (fun y=>[]) (fun y=>[qF true y.1 y.2 (q1)]):=by
  exact zUe (fun x hx hk h1 h2 hl=>by subst hx;exact zWd rfl rfl h1 h2)
theorem zGb {w1:Wd} {w2:Wd} {x1:Int} {x2:Int} (hl1:Big.ln x1≤1048576) (hl2:Big.ln x2≤1048576) (hd:x2≠0):Con Tryz.prog 71 [.agg #[w1.b,w1.l],.agg #[w2.b,w2.l]] [] [zF w1 x1,zF w2 x2] (Y:=Wd×Wd) (fun y=>True) (fun y=> .agg #[y.1.b,y.1.l,y.2.b,y.2.l]) (fun y=>[]) (fun y=>[qF true y.1 y.2 (Rat.divInt x1 x2)]):=by
 refine zr Tryz.func71 rfl rfl rfl (fun c=> ?_)
 show RunC _ _ _ _ _ [(0,.agg #[w1.b,w1.l]),(1,.agg #[w2.b,w2.l])] [] [zF w1 x1,zF w2 x2]
 refine zi<|zc<|zJ rfl rfl (zT rfl rfl) (fun b1=> ?_)
 refine zJ rfl rfl (zT rfl rfl) (fun b2=> ?_)
 refine zJ rfl rfl (zu zr42 rfl) (fun b3=> ?_)
 refine zj<|zf<|zi<|zc<|r_u rfl rfl (zg 2 ty40 rfl rfl (.take (.take .nil)))<|r_u rfl rfl (zg 1 ty40 rfl rfl (.take (.take .nil)))<|zx rfl rfl (.c rfl (.c rfl .n)) ce87 (zcf (w1:=w1) (w2:=w2) (x1:=x1) (x2:=x2) (hb1:=by first|rfl|assumption|omega|(rw [Big.zQ];omega)|(decide +kernel)) (hb2:=by first|rfl|assumption|omega|(rw [Big.zQ];omega)|(decide +kernel))) (.c (j:=0) rfl (.c (j:=1) rfl .n)) ?_
 rintro w34 -
 dsimp only [List.append_eq,List.nil_append,List.cons_append]
 refine zJ rfl rfl (zu zr40 rfl) (fun b5=> ?_)
 refine zl 0 rfl rfl rfl rfl rfl sz40 rfl (.take (.take .nil)) .z<|zj<|zf<|zi<|zi<|zc<|r_u rfl rfl (zg 2 ty40 rfl rfl (.take (.take .nil)))<|zL rfl rfl (.c rfl .n) ce78 (zkc (w1:=w2) (x1:=x2) (hln:=by first|rfl|assumption|omega|(rw [Big.zQ];omega)|(decide +kernel))) (.c (j:=2) rfl .n)<|r_pv rfl rfl (zfa rfl rfl)<|zj<|zf<|zK rfl (fun hneg=> ?_) (fun hneg=> ?_)
 ·
  have hs:x2<0:=by rcases Big.sign_le (x:=x2) with h|h|h <;> omega
  have hgp:=Big.gcd_pos_right (n:=x1) (d:=x2) (by omega)
  have hgl:=Big.zwd (n:=x1) (d:=x2) (by omega)
  obtain ⟨hr1,hr2⟩:=Big.red_neg (n:=x1) hs
  refine zc<|r_u rfl rfl (zg 0 ty40 rfl rfl (.take (.take .nil)))<|zx rfl rfl (.c rfl .n) ce74 (zxd (w1:=w34) (x1:=((Nat.gcd x1.natAbs x2.natAbs:Nat):Int)) (hln:=by first|rfl|assumption|omega|(rw [Big.zQ];omega)|(decide +kernel))) (.c (j:=0) rfl .n) ?_
  rintro w36 -
  dsimp only [List.append_eq,List.nil_append,List.cons_append]
  refine zl 0 rfl rfl rfl rfl rfl sz40 rfl (.take (.take .nil)) .z<|zj<|zf<|zi<|zc<|r_u rfl rfl (zg 3 ty40 rfl rfl (.take (.take .nil)))<|r_u rfl rfl (zg 0 ty40 rfl rfl (.take (.take .nil)))<|zx rfl rfl (.c rfl (.c rfl .n)) ce101 (zsb (w1:=w1) (w2:=w36) (x1:=x1) (x2:= - ((Nat.gcd x1.natAbs x2.natAbs:Nat):Int)) (hb1:=by first|rfl|assumption|omega|(rw [Big.zQ];omega)|(decide +kernel)) (hb2:=by first|rfl|assumption|omega|(rw [Big.zQ];omega)|(decide +kernel)) (hy:=by first|rfl|assumption|omega|(rw [Big.zQ];omega)|(decide +kernel))) (.c (j:=2) rfl (.c (j:=0) rfl .n)) ?_
  rintro ⟨w37,w48⟩ -
  dsimp only [List.append_eq,List.nil_append,List.cons_append]
  refine r_pv rfl rfl (zb rfl)<|r_pv rfl rfl (zm rfl rfl)<|r_pv rfl rfl (zm rfl rfl)<|r_pv rfl rfl (zm rfl rfl)<|zJ rfl rfl (zu zr40 rfl) (fun b9=> ?_)
  refine zJ rfl rfl (zu zr40 rfl) (fun b10=> ?_)
  refine zl 1 rfl rfl rfl rfl rfl sz40 rfl (.take (.take .nil)) (.s .z)<|zl 0 rfl rfl rfl rfl rfl sz40 rfl (.take (.take .nil)) .z<|r_pv rfl rfl (zd rfl)<|zj<|zf<|zi<|zc<|r_u rfl rfl (zg 4 ty40 rfl rfl (.take (.take .nil)))<|r_u rfl rfl (zg 2 ty40 rfl rfl (.take (.take .nil)))<|zx rfl rfl (.c rfl (.c rfl .n)) ce101 (zsb (w1:=w2) (w2:=w36) (x1:=x2) (x2:= - ((Nat.gcd x1.natAbs x2.natAbs:Nat):Int)) (hb1:=by first|rfl|assumption|omega|(rw [Big.zQ];omega)|(decide +kernel)) (hb2:=by first|rfl|assumption|omega|(rw [Big.zQ];omega)|(decide +kernel)) (hy:=by first|rfl|assumption|omega|(rw [Big.zQ];omega)|(decide +kernel))) (.c (j:=5) rfl (.c (j:=2) rfl .n)) ?_
  rintro ⟨w311,w412⟩ -
  dsimp only [List.append_eq,List.nil_append,List.cons_append]
  refine r_pv rfl rfl (zb rfl)<|r_pv rfl rfl (zm rfl rfl)<|r_pv rfl rfl (zm rfl rfl)<|r_pv rfl rfl (zm rfl rfl)<|zJ rfl rfl (zu zr40 rfl) (fun b13=> ?_)
  refine zJ rfl rfl (zu zr40 rfl) (fun b14=> ?_)
  refine zl 1 rfl rfl rfl rfl rfl sz40 rfl (.take (.take .nil)) (.s .z)<|zl 0 rfl rfl rfl rfl rfl sz40 rfl (.take (.take .nil)) .z<|r_pv rfl rfl (zd rfl)<|zj<|zf<|zi<|zc<|r_u rfl rfl (zg 3 ty40 rfl rfl (.take (.take .nil)))<|r_u rfl rfl (zg 1 ty40 rfl rfl (.take (.take .nil)))<|r_pv rfl rfl (zE zr42 rfl Tryz.underlying42 (.c sz40 (.c sz40 .n)) (.c rfl (.c rfl .n)) (.c rfl rfl rfl (.take (.take .nil)) (.c rfl rfl rfl (.skip (.skip (.take (.take .nil)))) .n)))<|zl 5 rfl rfl rfl rfl rfl sz42 rfl (.take (.take (.take (.take .nil)))) (.s (.s (.s (.s (.s .z)))))<|zj<|zf<|zI<|zib (qF true w37 w311 (Rat.divInt x1 x2)) (qF_close 2 0 rfl rfl (by exact ⟨hr1,hr2,Nat.le_trans (Big.hq_divInt hd) (by omega)⟩)) ?_
  exact zB Tryz.results71 (w37,w311) trivial (zq 5 ty42 rfl rfl (.take (.take (.take (.take .nil))))) rfl (ho:=(.n:PickO _ _ _)) ((.c (j:=0) rfl .n):SelR _ _ _)
 ·
  have hs:0<x2:=by rcases Big.sign_le (x:=x2) with h|h|h <;> omega
  have hgp:=Big.gcd_pos_right (n:=x1) (d:=x2) (by omega)
  have hgl:=Big.zwd (n:=x1) (d:=x2) (by omega)
  obtain ⟨hr1,hr2⟩:=Big.red_pos (n:=x1) hs
  refine zD<|zf<|zi<|zc<|r_u rfl rfl (zg 3 ty40 rfl rfl (.take (.take .nil)))<|r_u rfl rfl (zg 0 ty40 rfl rfl (.take (.take .nil)))<|zx rfl rfl (.c rfl (.c rfl .n)) ce101 (zsb (w1:=w1) (w2:=w34) (x1:=x1) (x2:=((Nat.gcd x1.natAbs x2.natAbs:Nat):Int)) (hb1:=by first|rfl|assumption|omega|(rw [Big.zQ];omega)|(decide +kernel)) (hb2:=by first|rfl|assumption|omega|(rw [Big.zQ];omega)|(decide +kernel)) (hy:=by first|rfl|assumption|omega|(rw [Big.zQ];omega)|(decide +kernel))) (.c (j:=1) rfl (.c (j:=0) rfl .n)) ?_
  rintro ⟨w315,w416⟩ -
  dsimp only [List.append_eq,List.nil_append,List.cons_append]
  refine r_pv rfl rfl (zb rfl)<|r_pv rfl rfl (zm rfl rfl)<|r_pv rfl rfl (zm rfl rfl)<|r_pv rfl rfl (zm rfl rfl)<|zJ rfl rfl (zu zr40 rfl) (fun b17=> ?_)
  refine zJ rfl rfl (zu zr40 rfl) (fun b18=> ?_)
  refine zl 1 rfl rfl rfl rfl rfl sz40 rfl (.take (.take .nil)) (.s .z)<|zl 0 rfl rfl rfl rfl rfl sz40 rfl (.take (.take .nil)) .z<|r_pv rfl rfl (zd rfl)<|zj<|zf<|zi<|zc<|r_u rfl rfl (zg 4 ty40 rfl rfl (.take (.take .nil)))<|r_u rfl rfl (zg 2 ty40 rfl rfl (.take (.take .nil)))<|zx rfl rfl (.c rfl (.c rfl .n)) ce101 (zsb (w1:=w2) (w2:=w34) (x1:=x2) (x2:=((Nat.gcd x1.natAbs x2.natAbs:Nat):Int)) (hb1:=by first|rfl|assumption|omega|(rw [Big.zQ];omega)|(decide +kernel)) (hb2:=by first|rfl|assumption|omega|(rw [Big.zQ];omega)|(decide +kernel)) (hy:=by first|rfl|assumption|omega|(rw [Big.zQ];omega)|(decide +kernel))) (.c (j:=4) rfl (.c (j:=2) rfl .n)) ?_
  rintro ⟨w319,w420⟩ -
  dsimp only [List.append_eq,List.nil_append,List.cons_append]
  refine r_pv rfl rfl (zb rfl)<|r_pv rfl rfl (zm rfl rfl)<|r_pv rfl rfl (zm rfl rfl)<|r_pv rfl rfl (zm rfl rfl)<|zJ rfl rfl (zu zr40 rfl) (fun b21=> ?_)
  refine zJ rfl rfl (zu zr40 rfl) (fun b22=> ?_)
  refine zl 1 rfl rfl rfl rfl rfl sz40 rfl (.take (.take .nil)) (.s .z)<|zl 0 rfl rfl rfl rfl rfl sz40 rfl (.take (.take .nil)) .z<|r_pv rfl rfl (zd rfl)<|zj<|zf<|zi<|zc<|r_u rfl rfl (zg 3 ty40 rfl rfl (.take (.take .nil)))<|r_u rfl rfl (zg 1 ty40 rfl rfl (.take (.take .nil)))<|r_pv rfl rfl (zE zr42 rfl Tryz.underlying42 (.c sz40 (.c sz40 .n)) (.c rfl (.c rfl .n)) (.c rfl rfl rfl (.take (.take .nil)) (.c rfl rfl rfl (.skip (.skip (.take (.take .nil)))) .n)))<|zl 5 rfl rfl rfl rfl rfl sz42 rfl (.take (.take (.take (.take .nil)))) (.s (.s (.s (.s (.s .z)))))<|zj<|zf<|zI<|zib (qF true w315 w319 (Rat.divInt x1 x2)) (qF_close 2 0 rfl rfl (by exact ⟨hr1,hr2,Nat.le_trans (Big.hq_divInt hd) (by omega)⟩)) ?_
  exact zB Tryz.results71 (w315,w319) trivial (zq 5 ty42 rfl rfl (.take (.take (.take (.take .nil))))) rfl (ho:=(.n:PickO _ _ _)) ((.c (j:=0) rfl .n):SelR _ _ _)
theorem zGf {w1:Wd} {w2:Wd} {x1:Int} {x2:Int} (hl1:Big.ln x1≤1048576) (hl2:Big.ln x2≤1048576):Con Tryz.prog 52 [.agg #[w1.b,w1.l],.agg #[w2.b,w2.l]] [] [zF w1 x1,zF w2 x2] (Y:=Wd×Wd) (fun y=>True) (fun y=> .tuple #[.agg #[y.1.b,y.1.l,y.2.b,y.2.l],.int .i64 (if x2=0 then 14 else 0)]) (fun y=>[]) (fun y=>[qF (decide (x2≠0)) y.1 y.2 (Rat.divInt x1 x2)]):=by
 refine zr Tryz.func52 rfl rfl rfl (fun c=> ?_)
 show RunC _ _ _ _ _ [(0,.agg #[w1.b,w1.l]),(1,.agg #[w2.b,w2.l])] [] [zF w1 x1,zF w2 x2]
 refine zi<|zc<|zJ rfl rfl (zT rfl rfl) (fun b1=> ?_)
 refine zJ rfl rfl (zT rfl rfl) (fun b2=> ?_)
 refine zJ rfl rfl (zu zr42 rfl) (fun b3=> ?_)
 refine r_pv rfl rfl (zd rfl)<|zj<|zf<|zi<|zi<|zc<|r_u rfl rfl (zg 1 ty40 rfl rfl (.take (.take .nil)))<|zL rfl rfl (.c rfl .n) ce78 (zkc (w1:=w2) (x1:=x2) (hln:=by first|rfl|assumption|omega|(rw [Big.zQ];omega)|(decide +kernel))) (.c (j:=1) rfl .n)<|r_pv rfl rfl (zza rfl rfl)<|zj<|zf<|zK rfl (fun hz0=> ?_) (fun hz0=> ?_)
 ·
  have hx0:x2=0:=Big.sign_zero.1 hz0
  refine zi<|zc<|r_pv rfl rfl (zE zr42 rfl Tryz.underlying42 (.c sz40 (.c sz40 .n)) .n .n)<|zl 0 rfl rfl rfl rfl rfl sz42 rfl (.take (.take (.take (.take .nil)))) .z<|r_pv rfl rfl (zd rfl)<|zj<|zf<|zI<|zv<|zib (qF false wz wz 0) (fun g _=>qF_none g) ?_
  exact zpa Tryz.results52 (wz,wz) trivial (zq 0 ty42 rfl rfl (.take (.take (.take (.take .nil))))) (zt rfl) (by rw [if_pos hx0];rfl) (ho:=(.n:PickO _ _ _)) ((.e (j:=0) rfl (by rw [Big.divInt_nil hx0,decide_eq_false (not_not_intro hx0)]) .n):SelR _ _ _)
 ·
  have hx0:x2≠0:=fun e=>hz0 (Big.sign_zero.2 e)
  refine zD<|zf<|zi<|zc<|r_u rfl rfl (zg 2 ty40 rfl rfl (.take (.take .nil)))<|r_u rfl rfl (zg 1 ty40 rfl rfl (.take (.take .nil)))<|zx rfl rfl (.c rfl (.c rfl .n)) ce71 (zGb (w1:=w1) (w2:=w2) (x1:=x1) (x2:=x2) (hl1:=by assumption) (hl2:=by assumption) (hd:=by first|rfl|assumption|omega|(rw [Big.zQ];omega)|(decide +kernel))) (.c (j:=0) rfl (.c (j:=1) rfl .n)) ?_
  rintro ⟨w34,w45⟩ -
  dsimp only [List.append_eq,List.nil_append,List.cons_append]
  refine zl 0 rfl rfl rfl rfl rfl sz42 rfl (.take (.take (.take (.take .nil)))) .z<|r_pv rfl rfl (zd rfl)<|zj<|zf<|zI ?_
  exact zpa Tryz.results52 (w34,w45) trivial (zq 0 ty42 rfl rfl (.take (.take (.take (.take .nil))))) (zt rfl) (by rw [if_neg hx0]) (ho:=(.n:PickO _ _ _)) ((.e (j:=0) rfl (by rw [decide_eq_true hx0]) .n):SelR _ _ _)
theorem zHf {z1:Int} {z2:Int} (hz1: -9223372036854775808≤z1∧z1≤9223372036854775807) (hz2: -9223372036854775808≤z2∧z2≤9223372036854775807):Con Tryz.prog 23 [.int .i64 z1,.int .i64 z2] [] [] (Y:=Wd×Wd) (fun y=>True) (fun y=> .tuple #[.agg #[y.1.b,y.1.l,y.2.b,y.2.l],.int .i64 (if z2=0 then 14 else 0)]) (fun y=>[]) (fun y=>[qF (decide (z2≠0)) y.1 y.2 (Rat.divInt z1 z2)]):=by
 refine zr Tryz.func23 rfl rfl rfl (fun c=> ?_)
 show RunC _ _ _ _ _ [(0,.int .i64 z1),(1,.int .i64 z2)] [] []
 have g1:=Big.zQd hz1.1 hz1.2
 have g2:=Big.zQd hz2.1 hz2.2
 refine zi<|zc<|zJ rfl rfl (zu zr42 rfl) (fun b1=> ?_)
 refine r_pv rfl rfl (zd rfl)<|zj<|zf<|zi<|zc<|r_pv rfl rfl (zb rfl)<|zx rfl rfl (.c rfl .n) ce53 (zAb (z:=z1) (hz:=by assumption)) (.n) ?_
 rintro w32 -
 dsimp only [List.append_eq,List.nil_append,List.cons_append]
 refine r_pv rfl rfl (zb rfl)<|zx rfl rfl (.c rfl .n) ce53 (zAb (z:=z2) (hz:=by assumption)) (.n) ?_
 rintro w33 -
 dsimp only [List.append_eq,List.nil_append,List.cons_append]
 refine zx rfl rfl (.c rfl (.c rfl .n)) ce52 (zGf (w1:=w32) (w2:=w33) (x1:=z1) (x2:=z2) (hl1:=by first|rfl|assumption|omega|(rw [Big.zQ];omega)|(decide +kernel)) (hl2:=by first|rfl|assumption|omega|(rw [Big.zQ];omega)|(decide +kernel))) (.c (j:=1) rfl (.c (j:=0) rfl .n)) ?_
 rintro ⟨w34,w45⟩ -
 dsimp only [List.append_eq,List.nil_append,List.cons_append]
 refine r_pv rfl rfl (zm rfl rfl)<|r_pv rfl rfl (zm rfl rfl)<|zl 0 rfl rfl rfl rfl rfl sz42 rfl (.take (.take (.take (.take .nil)))) .z<|r_pv rfl rfl (zd rfl)<|zj<|zf<|zI ?_
 exact zpa Tryz.results23 (w34,w45) trivial (zq 0 ty42 rfl rfl (.take (.take (.take (.take .nil))))) (zt rfl) rfl (ho:=(.n:PickO _ _ _)) ((.c (j:=0) rfl .n):SelR _ _ _)
theorem zmb {z1:Int} {z2:Int} (hz1: -9223372036854775808≤z1∧z1≤9223372036854775807) (hz2: -9223372036854775808≤z2∧z2≤9223372036854775807) (hy:z2≠0):Con Tryz.prog 23 [.int .i64 (z1),.int .i64 (z2)] [] [] (Y:=(Wd)×(Wd)) (fun y=>True) (fun y=> .tuple #[.agg #[y.1.b,y.1.l,y.2.b,y.2.l],.int .i64 (0)]) (fun y=>[]) (fun y=>[qF true y.1 y.2 (Rat.divInt z1 z2)]):=by
  have h:=zHf hz1 hz2
  rw [if_neg hy,decide_eq_true hy] at h
  exact h
theorem zBe {k1:Bool} {u1:Wd} {v1:Wd} {q1:Rat} (hl:Big.hq q1≤1048576):Con Tryz.prog 76 [.agg #[u1.b,u1.l,v1.b,v1.l]] [] [qF k1 u1 v1 q1] (Y:=Unit) (fun y=>True) (fun y=> .int .i64 (Big.sgq q1)) (fun y=>[]) (fun y=>[]):=by
 refine zr Tryz.func76 rfl rfl rfl (fun c=> ?_)
 show RunC _ _ _ _ _ [(0,.agg #[u1.b,u1.l,v1.b,v1.l])] [] [qF k1 u1 v1 q1]
 have a1:=Big.hq_num q1
 have a2:=Big.hq_den q1
 refine zi<|zc<|zJ rfl rfl (zT rfl rfl) (fun b1=> ?_)
 refine r_pv rfl rfl (zd rfl)<|zj<|zf<|zi<|zc<|r_u rfl rfl (zg 0 ty42 rfl rfl (.take (.take (.take (.take .nil)))))<|zx rfl rfl (.c rfl .n) ce70 (zab (k1:=k1) (u1:=u1) (v1:=v1) (q1:=q1)) (.c (j:=0) rfl .n) ?_
 rintro ⟨w32,w43⟩ -
 dsimp only [List.append_eq,List.nil_append,List.cons_append]
 refine r_pv rfl rfl (zqd Tryz.underlying42 rfl ty40 rfl (.take (.take .nil)))<|zSc (qF_open 0 rfl) (fun _ _=> ?_)
 refine zL rfl rfl (.c rfl .n) ce78 (zkc (w1:=w32) (x1:=(q1).num) (hln:=by first|rfl|assumption|omega|(rw [Big.zQ];omega)|(decide +kernel))) (.c (j:=0) rfl .n)<|r_pv rfl rfl (zd rfl)<|zj<|zf<|zI ?_
 exact zB Tryz.results76 () trivial (zt rfl) rfl (ho:=(.n:PickO _ _ _)) (.n:SelR _ _ _)
theorem zLc {k1:Bool} {u1:Wd} {v1:Wd} {q1:Rat} (hl:Big.hq q1≤1048576):Con Tryz.prog 45 [.agg #[u1.b,u1.l,v1.b,v1.l]] [] [qF k1 u1 v1 q1] (Y:=Wd×Wd) (fun y=>True) (fun y=> .agg #[y.1.b,y.1.l,y.2.b,y.2.l]) (fun y=>[]) (fun y=>[qF true y.1 y.2 (- q1)]):=by
 refine zr Tryz.func45 rfl rfl rfl (fun c=> ?_)
 show RunC _ _ _ _ _ [(0,.agg #[u1.b,u1.l,v1.b,v1.l])] [] [qF k1 u1 v1 q1]
 have a1:=Big.hq_num q1
 have a2:=Big.hq_den q1
 refine zi<|zc<|zJ rfl rfl (zT rfl rfl) (fun b1=> ?_)
 refine zJ rfl rfl (zu zr42 rfl) (fun b2=> ?_)
 refine zj<|zf<|zi<|zc<|r_u rfl rfl (zg 1 ty42 rfl rfl (.take (.take (.take (.take .nil)))))<|zx rfl rfl (.c rfl .n) ce70 (zab (k1:=k1) (u1:=u1) (v1:=v1) (q1:=q1)) (.c (j:=0) rfl .n) ?_
 rintro ⟨w33,w44⟩ -
 dsimp only [List.append_eq,List.nil_append,List.cons_append]
 refine zJ rfl rfl (zu zr42 rfl) (fun b5=> ?_)
 refine zl 0 rfl rfl rfl rfl rfl sz42 rfl (.take (.take (.take (.take .nil)))) .z<|zj<|zf<|zi<|zqa (.c (i:=1) rfl (.c (i:=0) rfl (.c (i:=0) rfl .n)))<|zaa (OW:=[boxA b2 42 [.bool false,.slice none 0 0,.bool false,.slice none 0 0]]) (O:=[boxA b5 42 [w33.b,w33.l,w44.b,w44.l],boxA b1 42 [u1.b,u1.l,v1.b,v1.l]]) 6 mixed (.then .ret) (by kernel_rfl)<|d_pv 0 rfl rfl (by kernel_rfl) (by kernel_rfl) rfl rfl (zh Tryz.underlying42 rfl sz40 rfl rfl)<|d_uw 1 rfl rfl (by kernel_rfl) (by kernel_rfl) (by kernel_rfl) rfl rfl (zg 1 ty40 rfl rfl (.take (.take .nil)))<|d_pv 3 rfl rfl (by kernel_rfl) (by kernel_rfl) rfl rfl (zh Tryz.underlying42 rfl sz40 rfl rfl)<|d_uw 4 rfl rfl (by kernel_rfl) (by kernel_rfl) (by kernel_rfl) rfl rfl (zg 1 ty40 rfl rfl (.skip (.skip (.take (.take .nil)))))<|zBb (qF_open 0 rfl) (fun _ _=> ?_)
 refine zG 2 (by kernel_rfl) (zw rfl rfl rfl rfl (.c rfl .n) ce74 (zxd (w1:=w33) (x1:=(q1).num) (hln:=by first|rfl|assumption|omega|(rw [Big.zQ];omega)|(decide +kernel))) (.c (j:=0) rfl .n) ?_)
 rintro w36 -
 dsimp only [List.append_eq,List.nil_append,List.cons_append]
 refine d_pv 5 rfl rfl (by kernel_rfl) (by kernel_rfl) rfl rfl (zE zr42 rfl Tryz.underlying42 (.c sz40 (.c sz40 .n)) (.c rfl (.c rfl .n)) (.c rfl rfl rfl (.take (.take .nil)) (.c rfl rfl rfl (.skip (.skip (.take (.take .nil)))) .n)))<|zG 6 (by kernel_rfl) (zz (by kernel_rfl) rfl rfl rfl rfl rfl sz42 rfl (.take (.take (.take (.take .nil)))) ?_)
 refine zY (by kernel_rfl)<|zf<|zI<|zib (qF true w36 w44 (- q1)) (qF_close 0 2 rfl rfl (by exact ⟨(Rat.neg_num q1).symm,by rw [Rat.neg_den],by rw [Big.hq_neg];exact hl⟩)) ?_
 exact zB Tryz.results45 (w36,w44) trivial (zq 0 ty42 rfl rfl (.take (.take (.take (.take .nil))))) rfl (ho:=(.n:PickO _ _ _)) ((.c (j:=0) rfl .n):SelR _ _ _)
theorem zqb {k1:Bool} {u1:Wd} {v1:Wd} {q1:Rat} {k2:Bool} {u2:Wd} {v2:Wd} {q2:Rat} (hl:Big.hq q1+Big.hq q2+1≤1048576):Con Tryz.prog 44 [.agg #[u1.b,u1.l,v1.b,v1.l],.agg #[u2.b,u2.l,v2.b,v2.l]] [] [qF k1 u1 v1 q1,qF k2 u2 v2 q2] (Y:=Wd×Wd) (fun y=>True) (fun y=> .agg #[y.1.b,y.1.l,y.2.b,y.2.l]) (fun y=>[]) (fun y=>[qF true y.1 y.2 (q1+q2)]):=by
 refine zr Tryz.func44 rfl rfl rfl (fun c=> ?_)
 show RunC _ _ _ _ _ [(0,.agg #[u1.b,u1.l,v1.b,v1.l]),(1,.agg #[u2.b,u2.l,v2.b,v2.l])] [] [qF k1 u1 v1 q1,qF k2 u2 v2 q2]
 have a1:=Big.hq_num q1
 have a2:=Big.hq_den q1
 have a3:=Big.hq_num q2
 have a4:=Big.hq_den q2
 have b1:=Big.zIa q1.num q2.den
 have b2:=Big.zIa q2.num q1.den
 have b3:=Big.zoc (q1.num*q2.den) (q2.num*q1.den)
 have b4:=Big.zIa (q1.den:Int) q2.den
 have b5:=Big.zIa q1.num q2.num
 refine zi<|zc<|zJ rfl rfl (zT rfl rfl) (fun b1=> ?_)
 refine zJ rfl rfl (zT rfl rfl) (fun b2=> ?_)
 refine zJ rfl rfl (zu zr42 rfl) (fun b3=> ?_)
 refine zj<|zf<|zi<|zc<|r_u rfl rfl (zg 2 ty42 rfl rfl (.take (.take (.take (.take .nil)))))<|zx rfl rfl (.c rfl .n) ce70 (zab (k1:=k1) (u1:=u1) (v1:=v1) (q1:=q1)) (.c (j:=0) rfl .n) ?_
 rintro ⟨w34,w45⟩ -
 dsimp only [List.append_eq,List.nil_append,List.cons_append]
 refine zJ rfl rfl (zu zr42 rfl) (fun b6=> ?_)
 refine zl 0 rfl rfl rfl rfl rfl sz42 rfl (.take (.take (.take (.take .nil)))) .z<|zj<|zf<|zi<|zc<|r_u rfl rfl (zg 2 ty42 rfl rfl (.take (.take (.take (.take .nil)))))<|zx rfl rfl (.c rfl .n) ce70 (zab (k1:=k2) (u1:=u2) (v1:=v2) (q1:=q2)) (.c (j:=2) rfl .n) ?_
 rintro ⟨w37,w48⟩ -
 dsimp only [List.append_eq,List.nil_append,List.cons_append]
 refine zJ rfl rfl (zu zr42 rfl) (fun b9=> ?_)
 refine zl 0 rfl rfl rfl rfl rfl sz42 rfl (.take (.take (.take (.take .nil)))) .z<|zj<|zf<|zi<|zqa (.c (i:=2) rfl (.c (i:=0) rfl (.c (i:=0) rfl (.c (i:=0) rfl (.c (i:=0) rfl .n)))))<|zaa (OW:=[boxA b3 42 [.bool false,.slice none 0 0,.bool false,.slice none 0 0]]) (O:=[boxA b9 42 [w37.b,w37.l,w48.b,w48.l],boxA b6 42 [w34.b,w34.l,w45.b,w45.l],boxA b2 42 [u2.b,u2.l,v2.b,v2.l],boxA b1 42 [u1.b,u1.l,v1.b,v1.l]]) 17 mixed (.then .ret) (by kernel_rfl)<|d_pv 0 rfl rfl (by kernel_rfl) (by kernel_rfl) rfl rfl (zh Tryz.underlying42 rfl sz40 rfl rfl)<|d_uw 1 rfl rfl (by kernel_rfl) (by kernel_rfl) (by kernel_rfl) rfl rfl (zg 2 ty40 rfl rfl (.take (.take .nil)))<|d_pv 2 rfl rfl (by kernel_rfl) (by kernel_rfl) rfl rfl (zh Tryz.underlying42 rfl sz40 rfl rfl)<|d_uw 3 rfl rfl (by kernel_rfl) (by kernel_rfl) (by kernel_rfl) rfl rfl (zg 1 ty40 rfl rfl (.skip (.skip (.take (.take .nil)))))<|d_pv 5 rfl rfl (by kernel_rfl) (by kernel_rfl) rfl rfl (zh Tryz.underlying42 rfl sz40 rfl rfl)<|d_uw 6 rfl rfl (by kernel_rfl) (by kernel_rfl) (by kernel_rfl) rfl rfl (zg 1 ty40 rfl rfl (.take (.take .nil)))<|d_pv 7 rfl rfl (by kernel_rfl) (by kernel_rfl) rfl rfl (zh Tryz.underlying42 rfl sz40 rfl rfl)<|d_uw 8 rfl rfl (by kernel_rfl) (by kernel_rfl) (by kernel_rfl) rfl rfl (zg 2 ty40 rfl rfl (.skip (.skip (.take (.take .nil)))))<|d_pv 11 rfl rfl (by kernel_rfl) (by kernel_rfl) rfl rfl (zh Tryz.underlying42 rfl sz40 rfl rfl)<|d_uw 12 rfl rfl (by kernel_rfl) (by kernel_rfl) (by kernel_rfl) rfl rfl (zg 2 ty40 rfl rfl (.skip (.skip (.take (.take .nil)))))<|d_pv 13 rfl rfl (by kernel_rfl) (by kernel_rfl) rfl rfl (zh Tryz.underlying42 rfl sz40 rfl rfl)<|d_uw 14 rfl rfl (by kernel_rfl) (by kernel_rfl) (by kernel_rfl) rfl rfl (zg 1 ty40 rfl rfl (.skip (.skip (.take (.take .nil)))))<|zBb (qF_open 1 rfl) (fun _ _=> ?_)
 refine zBb (qF_open 2 rfl) (fun _ _=> ?_)
 refine zG 4 (by kernel_rfl) (zw rfl rfl rfl rfl (.c rfl (.c rfl .n)) ce73 (zEb (w1:=w34) (w2:=w48) (x1:=(q1).num) (x2:=(((q2).den:Nat):Int)) (hb1:=by first|rfl|assumption|omega|(rw [Big.zQ];omega)|(decide +kernel)) (hb2:=by first|rfl|assumption|omega|(rw [Big.zQ];omega)|(decide +kernel))) (.c (j:=2) rfl (.c (j:=1) rfl .n)) ?_)
 rintro w310 -
 dsimp only [List.append_eq,List.nil_append,List.cons_append]
 refine zG 9 (by kernel_rfl) (zw rfl rfl rfl rfl (.c rfl (.c rfl .n)) ce73 (zEb (w1:=w37) (w2:=w45) (x1:=(q2).num) (x2:=(((q1).den:Nat):Int)) (hb1:=by first|rfl|assumption|omega|(rw [Big.zQ];omega)|(decide +kernel)) (hb2:=by first|rfl|assumption|omega|(rw [Big.zQ];omega)|(decide +kernel))) (.c (j:=1) rfl (.c (j:=4) rfl .n)) ?_)
 rintro w311 -
 dsimp only [List.append_eq,List.nil_append,List.cons_append]
 refine zG 10 (by kernel_rfl) (zw rfl rfl rfl rfl (.c rfl (.c rfl .n)) ce72 (zaf (w1:=w310) (w2:=w311) (x1:=((q1).num)*(((q2).den:Nat):Int)) (x2:=((q2).num)*(((q1).den:Nat):Int)) (hb1:=by first|rfl|assumption|omega|(rw [Big.zQ];omega)|(decide +kernel)) (hb2:=by first|rfl|assumption|omega|(rw [Big.zQ];omega)|(decide +kernel))) (.c (j:=1) rfl (.c (j:=0) rfl .n)) ?_)
 rintro w312 -
 dsimp only [List.append_eq,List.nil_append,List.cons_append]
 refine zG 15 (by kernel_rfl) (zw rfl rfl rfl rfl (.c rfl (.c rfl .n)) ce73 (zEb (w1:=w45) (w2:=w48) (x1:=(((q1).den:Nat):Int)) (x2:=(((q2).den:Nat):Int)) (hb1:=by first|rfl|assumption|omega|(rw [Big.zQ];omega)|(decide +kernel)) (hb2:=by first|rfl|assumption|omega|(rw [Big.zQ];omega)|(decide +kernel))) (.c (j:=6) rfl (.c (j:=4) rfl .n)) ?_)
 rintro w313 -
 dsimp only [List.append_eq,List.nil_append,List.cons_append]
 refine zG 16 (by kernel_rfl) (zw rfl rfl rfl rfl (.c rfl (.c rfl .n)) ce71 (zGb (w1:=w312) (w2:=w313) (x1:=(((q1).num)*(((q2).den:Nat):Int))+(((q2).num)*(((q1).den:Nat):Int))) (x2:=(((q1).den:Nat):Int)*(((q2).den:Nat):Int)) (hl1:=by first|rfl|assumption|omega|(rw [Big.zQ];omega)|(decide +kernel)) (hl2:=by first|rfl|assumption|omega|(rw [Big.zQ];omega)|(decide +kernel)) (hd:=by exact Int.mul_ne_zero (Big.den_ne q1) (Big.den_ne q2))) (.c (j:=1) rfl (.c (j:=0) rfl .n)) ?_)
 rintro ⟨w314,w415⟩ -
 dsimp only [List.append_eq,List.nil_append,List.cons_append]
 refine zG 17 (by kernel_rfl) (zz (by kernel_rfl) rfl rfl rfl rfl rfl sz42 rfl (.take (.take (.take (.take .nil)))) ?_)
 refine zY (by kernel_rfl)<|zf<|zI ?_
 exact zB Tryz.results44 (w314,w415) trivial (zq 0 ty42 rfl rfl (.take (.take (.take (.take .nil))))) rfl (ho:=(.n:PickO _ _ _)) ((.e (j:=0) rfl (by rw [Big.add_parts]) .n):SelR _ _ _)
theorem zeb {k1:Bool} {u1:Wd} {v1:Wd} {q1:Rat} {k2:Bool} {u2:Wd} {v2:Wd} {q2:Rat} (hl:Big.hq q1+Big.hq q2+1≤1048576):Con Tryz.prog 46 [.agg #[u1.b,u1.l,v1.b,v1.l],.agg #[u2.b,u2.l,v2.b,v2.l]] [] [qF k1 u1 v1 q1,qF k2 u2 v2 q2] (Y:=Wd×Wd) (fun y=>True) (fun y=> .agg #[y.1.b,y.1.l,y.2.b,y.2.l]) (fun y=>[]) (fun y=>[qF true y.1 y.2 (q1*q2)]):=by
 refine zr Tryz.func46 rfl rfl rfl (fun c=> ?_)
 show RunC _ _ _ _ _ [(0,.agg #[u1.b,u1.l,v1.b,v1.l]),(1,.agg #[u2.b,u2.l,v2.b,v2.l])] [] [qF k1 u1 v1 q1,qF k2 u2 v2 q2]
 have a1:=Big.hq_num q1
 have a2:=Big.hq_den q1
 have a3:=Big.hq_num q2
 have a4:=Big.hq_den q2
 have b1:=Big.zIa q1.num q2.den
 have b2:=Big.zIa q2.num q1.den
 have b3:=Big.zoc (q1.num*q2.den) (q2.num*q1.den)
 have b4:=Big.zIa (q1.den:Int) q2.den
 have b5:=Big.zIa q1.num q2.num
 refine zi<|zc<|zJ rfl rfl (zT rfl rfl) (fun b1=> ?_)
 refine zJ rfl rfl (zT rfl rfl) (fun b2=> ?_)
 refine zJ rfl rfl (zu zr42 rfl) (fun b3=> ?_)
 refine zj<|zf<|zi<|zc<|r_u rfl rfl (zg 2 ty42 rfl rfl (.take (.take (.take (.take .nil)))))<|zx rfl rfl (.c rfl .n) ce70 (zab (k1:=k1) (u1:=u1) (v1:=v1) (q1:=q1)) (.c (j:=0) rfl .n) ?_
 rintro ⟨w34,w45⟩ -
 dsimp only [List.append_eq,List.nil_append,List.cons_append]
 refine zJ rfl rfl (zu zr42 rfl) (fun b6=> ?_)
 refine zl 0 rfl rfl rfl rfl rfl sz42 rfl (.take (.take (.take (.take .nil)))) .z<|zj<|zf<|zi<|zc<|r_u rfl rfl (zg 2 ty42 rfl rfl (.take (.take (.take (.take .nil)))))<|zx rfl rfl (.c rfl .n) ce70 (zab (k1:=k2) (u1:=u2) (v1:=v2) (q1:=q2)) (.c (j:=2) rfl .n) ?_
 rintro ⟨w37,w48⟩ -
 dsimp only [List.append_eq,List.nil_append,List.cons_append]
 refine zJ rfl rfl (zu zr42 rfl) (fun b9=> ?_)
 refine zl 0 rfl rfl rfl rfl rfl sz42 rfl (.take (.take (.take (.take .nil)))) .z<|zj<|zf<|zi<|zqa (.c (i:=2) rfl (.c (i:=0) rfl (.c (i:=0) rfl (.c (i:=0) rfl (.c (i:=0) rfl .n)))))<|zaa (OW:=[boxA b3 42 [.bool false,.slice none 0 0,.bool false,.slice none 0 0]]) (O:=[boxA b9 42 [w37.b,w37.l,w48.b,w48.l],boxA b6 42 [w34.b,w34.l,w45.b,w45.l],boxA b2 42 [u2.b,u2.l,v2.b,v2.l],boxA b1 42 [u1.b,u1.l,v1.b,v1.l]]) 11 mixed (.then .ret) (by kernel_rfl)<|d_pv 0 rfl rfl (by kernel_rfl) (by kernel_rfl) rfl rfl (zh Tryz.underlying42 rfl sz40 rfl rfl)<|d_uw 1 rfl rfl (by kernel_rfl) (by kernel_rfl) (by kernel_rfl) rfl rfl (zg 2 ty40 rfl rfl (.take (.take .nil)))<|d_pv 2 rfl rfl (by kernel_rfl) (by kernel_rfl) rfl rfl (zh Tryz.underlying42 rfl sz40 rfl rfl)<|d_uw 3 rfl rfl (by kernel_rfl) (by kernel_rfl) (by kernel_rfl) rfl rfl (zg 1 ty40 rfl rfl (.take (.take .nil)))<|d_pv 5 rfl rfl (by kernel_rfl) (by kernel_rfl) rfl rfl (zh Tryz.underlying42 rfl sz40 rfl rfl)<|d_uw 6 rfl rfl (by kernel_rfl) (by kernel_rfl) (by kernel_rfl) rfl rfl (zg 2 ty40 rfl rfl (.skip (.skip (.take (.take .nil)))))<|d_pv 7 rfl rfl (by kernel_rfl) (by kernel_rfl) rfl rfl (zh Tryz.underlying42 rfl sz40 rfl rfl)<|d_uw 8 rfl rfl (by kernel_rfl) (by kernel_rfl) (by kernel_rfl) rfl rfl (zg 1 ty40 rfl rfl (.skip (.skip (.take (.take .nil)))))<|zBb (qF_open 1 rfl) (fun _ _=> ?_)
 refine zBb (qF_open 2 rfl) (fun _ _=> ?_)
 refine zG 4 (by kernel_rfl) (zw rfl rfl rfl rfl (.c rfl (.c rfl .n)) ce73 (zEb (w1:=w34) (w2:=w37) (x1:=(q1).num) (x2:=(q2).num) (hb1:=by first|rfl|assumption|omega|(rw [Big.zQ];omega)|(decide +kernel)) (hb2:=by first|rfl|assumption|omega|(rw [Big.zQ];omega)|(decide +kernel))) (.c (j:=2) rfl (.c (j:=0) rfl .n)) ?_)
 rintro w310 -
 dsimp only [List.append_eq,List.nil_append,List.cons_append]
 refine zG 9 (by kernel_rfl) (zw rfl rfl rfl rfl (.c rfl (.c rfl .n)) ce73 (zEb (w1:=w45) (w2:=w48) (x1:=(((q1).den:Nat):Int)) (x2:=(((q2).den:Nat):Int)) (hb1:=by first|rfl|assumption|omega|(rw [Big.zQ];omega)|(decide +kernel)) (hb2:=by first|rfl|assumption|omega|(rw [Big.zQ];omega)|(decide +kernel))) (.c (j:=4) rfl (.c (j:=2) rfl .n)) ?_)
 rintro w311 -
 dsimp only [List.append_eq,List.nil_append,List.cons_append]
 refine zG 10 (by kernel_rfl) (zw rfl rfl rfl rfl (.c rfl (.c rfl .n)) ce71 (zGb (w1:=w310) (w2:=w311) (x1:=((q1).num)*((q2).num)) (x2:=(((q1).den:Nat):Int)*(((q2).den:Nat):Int)) (hl1:=by first|rfl|assumption|omega|(rw [Big.zQ];omega)|(decide +kernel)) (hl2:=by first|rfl|assumption|omega|(rw [Big.zQ];omega)|(decide +kernel)) (hd:=by exact Int.mul_ne_zero (Big.den_ne q1) (Big.den_ne q2))) (.c (j:=1) rfl (.c (j:=0) rfl .n)) ?_)
 rintro ⟨w312,w413⟩ -
 dsimp only [List.append_eq,List.nil_append,List.cons_append]
 refine zG 11 (by kernel_rfl) (zz (by kernel_rfl) rfl rfl rfl rfl rfl sz42 rfl (.take (.take (.take (.take .nil)))) ?_)
 refine zY (by kernel_rfl)<|zf<|zI ?_
 exact zB Tryz.results46 (w312,w413) trivial (zq 0 ty42 rfl rfl (.take (.take (.take (.take .nil))))) rfl (ho:=(.n:PickO _ _ _)) ((.e (j:=0) rfl (by rw [Big.mul_parts]) .n):SelR _ _ _)
theorem zgf {k1:Bool} {u1:Wd} {v1:Wd} {q1:Rat} {k2:Bool} {u2:Wd} {v2:Wd} {q2:Rat} (hl:Big.hq q1+Big.hq q2+1≤1048576):Con Tryz.prog 77 [.agg #[u1.b,u1.l,v1.b,v1.l],.agg #[u2.b,u2.l,v2.b,v2.l]] [] [qF k1 u1 v1 q1,qF k2 u2 v2 q2] (Y:=Wd×Wd) (fun y=>True) (fun y=> .agg #[y.1.b,y.1.l,y.2.b,y.2.l]) (fun y=>[]) (fun y=>[qF true y.1 y.2 (q1 - q2)]):=by
 refine zr Tryz.func77 rfl rfl rfl (fun c=> ?_)
 show RunC _ _ _ _ _ [(0,.agg #[u1.b,u1.l,v1.b,v1.l]),(1,.agg #[u2.b,u2.l,v2.b,v2.l])] [] [qF k1 u1 v1 q1,qF k2 u2 v2 q2]
 have a1:=Big.hq_num q1
 have a2:=Big.hq_den q1
 have a3:=Big.hq_num q2
 have a4:=Big.hq_den q2
 refine zi<|zc<|zJ rfl rfl (zT rfl rfl) (fun b1=> ?_)
 refine zJ rfl rfl (zT rfl rfl) (fun b2=> ?_)
 refine zJ rfl rfl (zu zr42 rfl) (fun b3=> ?_)
 refine zj<|zf<|zi<|zaa (OW:=[boxA b3 42 [.bool false,.slice none 0 0,.bool false,.slice none 0 0]]) (O:=[boxA b2 42 [u2.b,u2.l,v2.b,v2.l],boxA b1 42 [u1.b,u1.l,v1.b,v1.l]]) 4 mixed (.then .ret) (by kernel_rfl)<|d_uw 0 rfl rfl (by kernel_rfl) (by kernel_rfl) (by kernel_rfl) rfl rfl (zg 2 ty42 rfl rfl (.take (.take (.take (.take .nil)))))<|d_uw 1 rfl rfl (by kernel_rfl) (by kernel_rfl) (by kernel_rfl) rfl rfl (zg 1 ty42 rfl rfl (.take (.take (.take (.take .nil)))))<|zG 2 (by kernel_rfl) (zw rfl rfl rfl rfl (.c rfl .n) ce45 (zLc (k1:=k2) (u1:=u2) (v1:=v2) (q1:=q2) (hl:=by first|rfl|assumption|omega|(rw [Big.zQ];omega)|(decide +kernel)|(rw [Big.hq_neg];omega))) (.c (j:=1) rfl .n) ?_)
 rintro ⟨w34,w45⟩ -
 dsimp only [List.append_eq,List.nil_append,List.cons_append]
 refine zG 3 (by kernel_rfl) (zw rfl rfl rfl rfl (.c rfl (.c rfl .n)) ce44 (zqb (k1:=k1) (u1:=u1) (v1:=v1) (q1:=q1) (k2:=true) (u2:=w34) (v2:=w45) (q2:= - q2) (hl:=by first|rfl|assumption|omega|(rw [Big.zQ];omega)|(decide +kernel)|(rw [Big.hq_neg];omega))) (.c (j:=1) rfl (.c (j:=0) rfl .n)) ?_)
 rintro ⟨w36,w47⟩ -
 dsimp only [List.append_eq,List.nil_append,List.cons_append]
 refine zG 4 (by kernel_rfl) (zz (by kernel_rfl) rfl rfl rfl rfl rfl sz42 rfl (.take (.take (.take (.take .nil)))) ?_)
 refine zY (by kernel_rfl)<|zf<|zI ?_
 exact zB Tryz.results77 (w36,w47) trivial (zq 0 ty42 rfl rfl (.take (.take (.take (.take .nil))))) rfl (ho:=(.n:PickO _ _ _)) ((.e (j:=0) rfl (by rw [Rat.sub_eq_add_neg]) .n):SelR _ _ _)
theorem zgc {k1:Bool} {u1:Wd} {v1:Wd} {q1:Rat} {k2:Bool} {u2:Wd} {v2:Wd} {q2:Rat} (hl:Big.hq q1+Big.hq q2+1≤1048576):Con Tryz.prog 48 [.agg #[u1.b,u1.l,v1.b,v1.l],.agg #[u2.b,u2.l,v2.b,v2.l]] [] [qF k1 u1 v1 q1,qF k2 u2 v2 q2] (Y:=Unit) (fun y=>True) (fun y=> .int .i64 (Big.sgq (q1 - q2))) (fun y=>[]) (fun y=>[]):=by
 refine zr Tryz.func48 rfl rfl rfl (fun c=> ?_)
 show RunC _ _ _ _ _ [(0,.agg #[u1.b,u1.l,v1.b,v1.l]),(1,.agg #[u2.b,u2.l,v2.b,v2.l])] [] [qF k1 u1 v1 q1,qF k2 u2 v2 q2]
 have hsb:=Big.hq_sub q1 q2
 refine zi<|zc<|zJ rfl rfl (zT rfl rfl) (fun b1=> ?_)
 refine zJ rfl rfl (zT rfl rfl) (fun b2=> ?_)
 refine r_pv rfl rfl (zd rfl)<|zj<|zf<|zi<|zc<|r_u rfl rfl (zg 1 ty42 rfl rfl (.take (.take (.take (.take .nil)))))<|r_u rfl rfl (zg 0 ty42 rfl rfl (.take (.take (.take (.take .nil)))))<|zx rfl rfl (.c rfl (.c rfl .n)) ce77 (zgf (k1:=k1) (u1:=u1) (v1:=v1) (q1:=q1) (k2:=k2) (u2:=u2) (v2:=v2) (q2:=q2) (hl:=by assumption)) (.c (j:=0) rfl (.c (j:=1) rfl .n)) ?_
 rintro ⟨w33,w44⟩ -
 dsimp only [List.append_eq,List.nil_append,List.cons_append]
 refine zL rfl rfl (.c rfl .n) ce76 (zBe (k1:=true) (u1:=w33) (v1:=w44) (q1:=q1 - q2) (hl:=by first|rfl|assumption|omega|(rw [Big.zQ];omega)|(decide +kernel))) (.c (j:=0) rfl .n)<|r_pv rfl rfl (zd rfl)<|zj<|zf<|zI ?_
 exact zB Tryz.results48 () trivial (zt rfl) rfl (ho:=(.n:PickO _ _ _)) (.n:SelR _ _ _)
theorem zCe {u1:Wd} {v1:Wd} {q1:Rat} {u2:Wd} {v2:Wd} {q2:Rat} (hl:Big.hq q1+Big.hq q2+1≤1048576):Con Tryz.prog 34 [.agg #[u1.b,u1.l,v1.b,v1.l],.agg #[u2.b,u2.l,v2.b,v2.l]] [] [qF true u1 v1 q1,qF true u2 v2 q2] (Y:=Unit) (fun y=>True) (fun y=> .bool (decide (q1=q2))) (fun y=>[]) (fun y=>[]):=by
 refine zr Tryz.func34 rfl rfl rfl (fun c=> ?_)
 show RunC _ _ _ _ _ [(0,.agg #[u1.b,u1.l,v1.b,v1.l]),(1,.agg #[u2.b,u2.l,v2.b,v2.l])] [] [qF true u1 v1 q1,qF true u2 v2 q2]
 refine zi<|zc<|zJ rfl rfl (zT rfl rfl) (fun b1=> ?_)
 refine zJ rfl rfl (zT rfl rfl) (fun b2=> ?_)
 refine r_pv rfl rfl (zd rfl)<|zj<|zf<|zQa (X:=Unit) (fun x=>True) (fun x=>[(4,.bool (decide (Big.sgq (q1 - q2)=0)))]) (fun x=>[boxA b2 42 (cw [u2,v2]),boxA b1 42 (cw [u1,v1])]) (fun x=>[qF true u1 v1 q1,qF true u2 v2 q2]) ?_ ?_
 ·
  refine zc<|r_u rfl rfl (zg 1 ty42 rfl rfl (.take (.take (.take (.take .nil)))))<|zL rfl rfl (.c rfl .n) ce62 (zqc (u1:=u1) (v1:=v1) (q1:=q1)) (.c (j:=0) rfl .n)<|r_pv rfl rfl (zb rfl)<|r_u rfl rfl (zg 0 ty42 rfl rfl (.take (.take (.take (.take .nil)))))<|zL rfl rfl (.c rfl .n) ce62 (zqc (u1:=u2) (v1:=v2) (q1:=q2)) (.c (j:=1) rfl .n)<|r_pv rfl rfl (zk rfl rfl)<|r_pv rfl rfl (zb rfl)<|r_u rfl rfl (zg 1 ty42 rfl rfl (.take (.take (.take (.take .nil)))))<|r_u rfl rfl (zg 0 ty42 rfl rfl (.take (.take (.take (.take .nil)))))<|zL rfl rfl (.c rfl (.c rfl .n)) ce48 (zgc (k1:=true) (u1:=u1) (v1:=v1) (q1:=q1) (k2:=true) (u2:=u2) (v2:=v2) (q2:=q2) (hl:=by assumption)) (.c (j:=0) rfl (.c (j:=1) rfl .n))<|r_pv rfl rfl (zza rfl rfl)<|r_pv rfl rfl (zk rfl rfl)<|r_pv rfl rfl (zd rfl)<|zj ?_
  exact zZ () (show True from by first|trivial|omega|simp_all) ((.c rfl .n):SubM _ _) (ho:=((.of [0,0] rfl):PickO _ _ _)) ((.of [0,1] rfl):SelR _ _ _)
 ·
  rintro ⟨⟩ -
  try dsimp only [cw]
  refine zI ?_
  exact zB Tryz.results34 () trivial (zt rfl) (congrArg Value.bool (decide_eq_decide.2 Big.sgq_sub_zero.symm)) (ho:=(.n:PickO _ _ _)) (.n:SelR _ _ _)
theorem zDa {u1:Wd} {v1:Wd} {q1:Rat} {u2:Wd} {v2:Wd} {q2:Rat} (hl:Big.hq q1+Big.hq q2+1≤1048576):Con Tryz.prog 15 [.agg #[u1.b,u1.l,v1.b,v1.l],.agg #[u2.b,u2.l,v2.b,v2.l]] [] [qF true u1 v1 q1,qF true u2 v2 q2] (Y:=Unit) (fun y=>True) (fun y=> .bool (decide (q1=q2))) (fun y=>[]) (fun y=>[]):=by
 refine zr Tryz.func15 rfl rfl rfl (fun c=> ?_)
 show RunC _ _ _ _ _ [(0,.agg #[u1.b,u1.l,v1.b,v1.l]),(1,.agg #[u2.b,u2.l,v2.b,v2.l])] [] [qF true u1 v1 q1,qF true u2 v2 q2]
 refine zi<|zc<|zJ rfl rfl (zT rfl rfl) (fun b1=> ?_)
 refine zJ rfl rfl (zT rfl rfl) (fun b2=> ?_)
 refine r_pv rfl rfl (zd rfl)<|zj<|zf<|zi<|zc<|r_u rfl rfl (zg 1 ty42 rfl rfl (.take (.take (.take (.take .nil)))))<|r_u rfl rfl (zg 0 ty42 rfl rfl (.take (.take (.take (.take .nil)))))<|zL rfl rfl (.c rfl (.c rfl .n)) ce34 (zCe (u1:=u1) (v1:=v1) (q1:=q1) (u2:=u2) (v2:=v2) (q2:=q2) (hl:=by assumption)) (.c (j:=0) rfl (.c (j:=1) rfl .n))<|r_pv rfl rfl (zd rfl)<|zj<|zf<|zI ?_
 exact zB Tryz.results15 () trivial (zt rfl) rfl (ho:=(.n:PickO _ _ _)) (.n:SelR _ _ _)
end Go.Proofs.YtefbbhiaalcjfaaGreat.Sp
namespace Go.Proofs.YtefbbhiaalcjfaaGreat.Sp
open Go
set_option linter.unusedVariables false
set_option maxRecDepth 100000
set_option maxHeartbeats 1000000
theorem zHb {z1:Int} {z2:Int} (hz1: -9223372036854775808≤z1∧z1≤9223372036854775807) (hz2: -9223372036854775808≤z2∧z2≤9223372036854775807) (hy:z2≠0):Con Tryz.prog 32 [.int .i64 z1,.int .i64 z2] [] [] (Y:=Wd×Wd) (fun y=>True) (fun y=> .agg #[y.1.b,y.1.l,y.2.b,y.2.l]) (fun y=>[]) (fun y=>[qF true y.1 y.2 (Rat.divInt z1 z2)]):=by
 refine zr Tryz.func32 rfl rfl rfl (fun c=> ?_)
 show RunC _ _ _ _ _ [(0,.int .i64 z1),(1,.int .i64 z2)] [] []
 refine zi<|zc<|zJ rfl rfl (zu zr42 rfl) (fun b1=> ?_)
 refine zj<|zf<|zi<|zc<|r_pv rfl rfl (zb rfl)<|r_pv rfl rfl (zb rfl)<|zx rfl rfl (.c rfl (.c rfl .n)) ce61 (zff (z1:=z1) (z2:=z2) (hz1:=by assumption) (hz2:=by assumption) (hy:=by assumption)) (.n) ?_
 rintro ⟨w32,w43⟩ -
 dsimp only [List.append_eq,List.nil_append,List.cons_append]
 refine r_pv rfl rfl (zb rfl)<|r_pv rfl rfl (zm rfl rfl)<|r_pv rfl rfl (zm rfl rfl)<|zJ rfl rfl (zu zr42 rfl) (fun b4=> ?_)
 refine zl 0 rfl rfl rfl rfl rfl sz42 rfl (.take (.take (.take (.take .nil)))) .z<|r_pv rfl rfl (zd rfl)<|zj<|zf<|zi<|zc<|r_u rfl rfl (zg 0 ty42 rfl rfl (.take (.take (.take (.take .nil)))))<|zl 1 rfl rfl rfl rfl rfl sz42 rfl (.take (.take (.take (.take .nil)))) (.s .z)<|zj<|zf<|zI ?_
 exact zB Tryz.results32 (w32,w43) trivial (zq 1 ty42 rfl rfl (.take (.take (.take (.take .nil))))) rfl (ho:=(.n:PickO _ _ _)) ((.c (j:=0) rfl .n):SelR _ _ _)
theorem zIb {ar:Int} {le:Int} {tp:Int} {rt:Int} {bt:Int} {sx:Int} {sy:Int} {xx:Int} {xy:Int} {yy:Int} {ms:Int} {mx:Int} {my:Int} {bb:Nat} {u:Int} {v:Int} {w:Int} (ho:1≤ar∧ar≤4096) (hp:0≤u∧u≤16257024) (hs:0≤v∧v≤258048) (ht:0≤w∧w≤258048):Con Tryz.prog 35 [.int .i64 u,.int .i64 v,.int .i64 w,.pointer (some ⟨bb,0,none⟩)] [] [atF bb 0 [.int .i64 ar,.int .i64 le,.int .i64 tp,.int .i64 rt,.int .i64 bt,.int .i64 sx,.int .i64 sy,.int .i64 xx,.int .i64 xy,.int .i64 yy,.int .i64 ms,.int .i64 mx,.int .i64 my]] (Y:=Wd×Wd) (fun y=>True) (fun y=> .agg #[y.1.b,y.1.l,y.2.b,y.2.l]) (fun y=>[]) (fun y=>[qF true y.1 y.2 (Rat.divInt (u*ar - v*w) (ar*ar))]):=by
 refine zr Tryz.func35 rfl rfl rfl (fun c=> ?_)
 show RunC _ _ _ _ _ [(0,.int .i64 u),(1,.int .i64 v),(2,.int .i64 w),(3,.pointer (some ⟨bb,0,none⟩))] [] [atF bb 0 [.int .i64 ar,.int .i64 le,.int .i64 tp,.int .i64 rt,.int .i64 bt,.int .i64 sx,.int .i64 sy,.int .i64 xx,.int .i64 xy,.int .i64 yy,.int .i64 ms,.int .i64 mx,.int .i64 my]]
 have p1:=Bl.mul_b (m:=16257024) (n:=4096) hp (show 0≤ar∧ar≤4096 by omega)
 have p2:=Bl.mul_b hs ht
 have p3:=Bl.mul_b (m:=4096) (n:=4096) (show 0≤ar∧ar≤4096 by omega) (show 0≤ar∧ar≤4096 by omega)
 have p4:ar*ar≠0:=Int.mul_ne_zero (by omega) (by omega)
 refine zi<|zc<|zJ rfl rfl (zu zr42 rfl) (fun b1=> ?_)
 refine zj<|zf<|zi<|zc<|r_pv rfl rfl (zb rfl)<|r_pv rfl rfl (zh Tryz.underlying33 rfl sz3 rfl rfl)<|r_u rfl rfl (zo (j:=0) 0 ty3 rfl rfl rfl rfl)<|r_pv rfl rfl (zda (z:=(u*ar)) rfl rfl (w64 (by omega)))<|r_pv rfl rfl (zb rfl)<|r_pv rfl rfl (zb rfl)<|r_pv rfl rfl (zda (z:=(v*w)) rfl rfl (w64 (by omega)))<|r_pv rfl rfl (zha (z:=((u*ar) - (v*w))) rfl rfl (w64 (by omega)))<|r_pv rfl rfl (zh Tryz.underlying33 rfl sz3 rfl rfl)<|r_u rfl rfl (zo (j:=0) 0 ty3 rfl rfl rfl rfl)<|r_pv rfl rfl (zh Tryz.underlying33 rfl sz3 rfl rfl)<|r_u rfl rfl (zo (j:=0) 0 ty3 rfl rfl rfl rfl)<|r_pv rfl rfl (zda (z:=(ar*ar)) rfl rfl (w64 (by omega)))<|zx rfl rfl (.c rfl (.c rfl .n)) ce32 (zHb (z1:=((u*ar) - (v*w))) (z2:=(ar*ar)) (hz1:=by first|rfl|assumption|omega) (hz2:=by first|rfl|assumption|omega) (hy:=by first|rfl|assumption|omega)) (.n) ?_
 rintro ⟨w32,w43⟩ -
 dsimp only [List.append_eq,List.nil_append,List.cons_append]
 refine zl 0 rfl rfl rfl rfl rfl sz42 rfl (.take (.take (.take (.take .nil)))) .z<|zj<|zf<|zI ?_
 exact zB Tryz.results35 (w32,w43) trivial (zq 0 ty42 rfl rfl (.take (.take (.take (.take .nil))))) rfl (ho:=(.n:PickO _ _ _)) ((.c (j:=0) rfl .n):SelR _ _ _)
end Go.Proofs.YtefbbhiaalcjfaaGreat.Sp
namespace Go.Proofs.YtefbbhiaalcjfaaGreat.Sp
open Go
set_option linter.unusedVariables false
set_option maxRecDepth 100000
set_option maxHeartbeats 1000000
theorem zSb {ar:Int} {le:Int} {tp:Int} {rt:Int} {bt:Int} {sx:Int} {sy:Int} {xx:Int} {xy:Int} {yy:Int} {ms:Int} {mx:Int} {my:Int}:Con Tryz.prog 16 [.agg #[.int .i64 ar,.int .i64 le,.int .i64 tp,.int .i64 rt,.int .i64 bt,.int .i64 sx,.int .i64 sy,.int .i64 xx,.int .i64 xy,.int .i64 yy,.int .i64 ms,.int .i64 mx,.int .i64 my]] [] [] (Y:=Wd×Wd×Wd×Wd×Wd×Wd) (fun y=>True) (fun y=> .tuple #[.agg #[y.1.b,y.1.l,y.2.1.b,y.2.1.l],.agg #[y.2.2.1.b,y.2.2.1.l,y.2.2.2.1.b,y.2.2.2.1.l],.agg #[y.2.2.2.2.1.b,y.2.2.2.2.1.l,y.2.2.2.2.2.b,y.2.2.2.2.2.l],.int .i64 (if Bl.ok ar le tp rt bt sx sy xx xy yy ms mx my then 0 else 1)]) (fun y=>[]) (fun y=>[qF (decide (Bl.ok ar le tp rt bt sx sy xx xy yy ms mx my)) y.1 y.2.1 (if Bl.ok ar le tp rt bt sx sy xx xy yy ms mx my then Rat.divInt (xx*ar - sx*sx) (ar*ar) else 0),qF (decide (Bl.ok ar le tp rt bt sx sy xx xy yy ms mx my)) y.2.2.1 y.2.2.2.1 (if Bl.ok ar le tp rt bt sx sy xx xy yy ms mx my then Rat.divInt (xy*ar - sx*sy) (ar*ar) else 0),qF (decide (Bl.ok ar le tp rt bt sx sy xx xy yy ms mx my)) y.2.2.2.2.1 y.2.2.2.2.2 (if Bl.ok ar le tp rt bt sx sy xx xy yy ms mx my then Rat.divInt (yy*ar - sy*sy) (ar*ar) else 0)]):=by
 refine zr Tryz.func16 rfl rfl rfl (fun c=> ?_)
 show RunC _ _ _ _ _ [(0,.agg #[.int .i64 ar,.int .i64 le,.int .i64 tp,.int .i64 rt,.int .i64 bt,.int .i64 sx,.int .i64 sy,.int .i64 xx,.int .i64 xy,.int .i64 yy,.int .i64 ms,.int .i64 mx,.int .i64 my])] [] []
 refine zi<|zc<|zJ rfl rfl (zT rfl rfl) (fun b1=> ?_)
 refine zJ rfl rfl (zu zr42 rfl) (fun b2=> ?_)
 refine zJ rfl rfl (zu zr42 rfl) (fun b3=> ?_)
 refine zJ rfl rfl (zu zr42 rfl) (fun b4=> ?_)
 refine r_pv rfl rfl (zd rfl)<|zj<|zf<|zi<|zi<|zc<|r_u rfl rfl (zg 3 ty33 rfl rfl (.take (.take (.take (.take (.take (.take (.take (.take (.take (.take (.take (.take (.take .nil))))))))))))))<|zL rfl rfl (.c rfl .n) ce12 (zVc (ar:=ar) (le:=le) (tp:=tp) (rt:=rt) (bt:=bt) (sx:=sx) (sy:=sy) (xx:=xx) (xy:=xy) (yy:=yy) (ms:=ms) (mx:=mx) (my:=my)) (.n)<|r_pv rfl rfl (zd rfl)<|zj<|zf<|zi<|zc<|r_pv rfl rfl (zb rfl)<|r_pv rfl rfl (zJa rfl rfl)<|zj<|zf<|zK rfl (fun hc=> ?_) (fun hc=> ?_)
 ·
  have hok:¬Bl.ok ar le tp rt bt sx sy xx xy yy ms mx my:=fun k=>hc (if_pos k)
  refine zi<|zc<|r_pv rfl rfl (zE zr42 rfl Tryz.underlying42 (.c sz40 (.c sz40 .n)) .n .n)<|r_pv rfl rfl (zE zr42 rfl Tryz.underlying42 (.c sz40 (.c sz40 .n)) .n .n)<|r_pv rfl rfl (zE zr42 rfl Tryz.underlying42 (.c sz40 (.c sz40 .n)) .n .n)<|r_pv rfl rfl (zb rfl)<|zl 2 rfl rfl rfl rfl rfl sz42 rfl (.take (.take (.take (.take .nil)))) (.s (.s .z))<|zl 1 rfl rfl rfl rfl rfl sz42 rfl (.take (.take (.take (.take .nil)))) (.s .z)<|zl 0 rfl rfl rfl rfl rfl sz42 rfl (.take (.take (.take (.take .nil)))) .z<|r_pv rfl rfl (zd rfl)<|zj<|zf<|zI<|zv<|zib (qF false wz wz 0) (fun g _=>qF_none g) ?_
  exact zfe Tryz.results16 (wz,wz,wz,wz,wz,wz) trivial (zq 2 ty42 rfl rfl (.take (.take (.take (.take .nil))))) (zq 1 ty42 rfl rfl (.take (.take (.take (.take .nil))))) (zq 0 ty42 rfl rfl (.take (.take (.take (.take .nil))))) (zt rfl) (by simp only [if_neg hok];rfl) (ho:=(.n:PickO _ _ _)) ((.e (j:=0) rfl (by rw [if_neg hok,decide_eq_false hok]) (.e (j:=0) rfl (by rw [if_neg hok,decide_eq_false hok]) (.e (j:=0) rfl (by rw [if_neg hok,decide_eq_false hok]) .n))):SelR _ _ _)
 ·
  have hok:Bl.ok ar le tp rt bt sx sy xx xy yy ms mx my:=Bl.c0.1 (Decidable.not_not.1 hc)
  have ho9:=hok
  unfold Bl.ok at ho9
  have e0:=Bl.mul_b (x:=ar) (y:=le) (m:=4096) (n:=63) (by omega) (by omega)
  have e1:=Bl.mul_b (x:=ar) (y:=rt) (m:=4096) (n:=63) (by omega) (by omega)
  have e2:=Bl.mul_b (x:=ar) (y:=tp) (m:=4096) (n:=63) (by omega) (by omega)
  have e3:=Bl.mul_b (x:=ar) (y:=bt) (m:=4096) (n:=63) (by omega) (by omega)
  have e4:=Bl.mul_b (x:=ms) (y:=le) (m:=268431360) (n:=63) (by omega) (by omega)
  have e5:=Bl.mul_b (x:=ms) (y:=rt) (m:=268431360) (n:=63) (by omega) (by omega)
  have e6:=Bl.mul_b (x:=ms) (y:=tp) (m:=268431360) (n:=63) (by omega) (by omega)
  have e7:=Bl.mul_b (x:=ms) (y:=bt) (m:=268431360) (n:=63) (by omega) (by omega)
  refine zD<|zf<|zi<|zWb 3 rfl (.s (.s (.s .z)))<|zc<|r_pv rfl rfl (zob .n (.c rfl .n))<|r_pv rfl rfl (zd rfl)<|zj<|zf<|zi<|zqa (.c (i:=2) rfl (.c (i:=1) rfl (.c (i:=0) rfl (.c (i:=0) rfl .n))))<|zaa (OW:=[boxA b2 42 [.bool false,.slice none 0 0,.bool false,.slice none 0 0],boxA b3 42 [.bool false,.slice none 0 0,.bool false,.slice none 0 0],boxA b4 42 [.bool false,.slice none 0 0,.bool false,.slice none 0 0]]) (O:=[emA]) 24 mixed (.then .ret) (by kernel_rfl)<|d_pv 0 rfl rfl (by kernel_rfl) (by kernel_rfl) rfl rfl (zb rfl)<|d_pv 1 rfl rfl (by kernel_rfl) (by kernel_rfl) rfl rfl (zh Tryz.underlying33 rfl sz3 rfl rfl)<|d_u 2 rfl rfl (by kernel_rfl) (by kernel_rfl) rfl rfl (zo (j:=7) 0 ty3 rfl rfl rfl rfl)<|d_pv 3 rfl rfl (by kernel_rfl) (by kernel_rfl) rfl rfl (zh Tryz.underlying33 rfl sz3 rfl rfl)<|d_u 4 rfl rfl (by kernel_rfl) (by kernel_rfl) rfl rfl (zo (j:=5) 0 ty3 rfl rfl rfl rfl)<|d_pv 5 rfl rfl (by kernel_rfl) (by kernel_rfl) rfl rfl (zh Tryz.underlying33 rfl sz3 rfl rfl)<|d_u 6 rfl rfl (by kernel_rfl) (by kernel_rfl) rfl rfl (zo (j:=5) 0 ty3 rfl rfl rfl rfl)<|d_pv 8 rfl rfl (by kernel_rfl) (by kernel_rfl) rfl rfl (zb rfl)<|d_pv 9 rfl rfl (by kernel_rfl) (by kernel_rfl) rfl rfl (zh Tryz.underlying33 rfl sz3 rfl rfl)<|d_u 10 rfl rfl (by kernel_rfl) (by kernel_rfl) rfl rfl (zo (j:=8) 0 ty3 rfl rfl rfl rfl)<|d_pv 11 rfl rfl (by kernel_rfl) (by kernel_rfl) rfl rfl (zh Tryz.underlying33 rfl sz3 rfl rfl)<|d_u 12 rfl rfl (by kernel_rfl) (by kernel_rfl) rfl rfl (zo (j:=5) 0 ty3 rfl rfl rfl rfl)<|d_pv 13 rfl rfl (by kernel_rfl) (by kernel_rfl) rfl rfl (zh Tryz.underlying33 rfl sz3 rfl rfl)<|d_u 14 rfl rfl (by kernel_rfl) (by kernel_rfl) rfl rfl (zo (j:=6) 0 ty3 rfl rfl rfl rfl)<|d_pv 16 rfl rfl (by kernel_rfl) (by kernel_rfl) rfl rfl (zb rfl)<|d_pv 17 rfl rfl (by kernel_rfl) (by kernel_rfl) rfl rfl (zh Tryz.underlying33 rfl sz3 rfl rfl)<|d_u 18 rfl rfl (by kernel_rfl) (by kernel_rfl) rfl rfl (zo (j:=9) 0 ty3 rfl rfl rfl rfl)<|d_pv 19 rfl rfl (by kernel_rfl) (by kernel_rfl) rfl rfl (zh Tryz.underlying33 rfl sz3 rfl rfl)<|d_u 20 rfl rfl (by kernel_rfl) (by kernel_rfl) rfl rfl (zo (j:=6) 0 ty3 rfl rfl rfl rfl)<|d_pv 21 rfl rfl (by kernel_rfl) (by kernel_rfl) rfl rfl (zh Tryz.underlying33 rfl sz3 rfl rfl)<|d_u 22 rfl rfl (by kernel_rfl) (by kernel_rfl) rfl rfl (zo (j:=6) 0 ty3 rfl rfl rfl rfl)<|zG 7 (by kernel_rfl) (zMb (first:=[]) (cap:=[.pointer (some ⟨b1,0,none⟩)]) rfl rfl rfl rfl rfl (.c rfl (.c rfl (.c rfl .n))) ce35 (zIb (ar:=ar) (le:=le) (tp:=tp) (rt:=rt) (bt:=bt) (sx:=sx) (sy:=sy) (xx:=xx) (xy:=xy) (yy:=yy) (ms:=ms) (mx:=mx) (my:=my) (bb:=b1) (u:=xx) (v:=sx) (w:=sx) (ho:=by first|rfl|assumption|omega) (hp:=by first|rfl|assumption|omega) (hs:=by first|rfl|assumption|omega) (ht:=by first|rfl|assumption|omega)) (.c (j:=0) rfl .n) ?_)
  rintro ⟨w35,w46⟩ -
  dsimp only [List.append_eq,List.nil_append,List.cons_append]
  refine zG 15 (by kernel_rfl) (zMb (first:=[]) (cap:=[.pointer (some ⟨b1,0,none⟩)]) rfl rfl rfl rfl rfl (.c rfl (.c rfl (.c rfl .n))) ce35 (zIb (ar:=ar) (le:=le) (tp:=tp) (rt:=rt) (bt:=bt) (sx:=sx) (sy:=sy) (xx:=xx) (xy:=xy) (yy:=yy) (ms:=ms) (mx:=mx) (my:=my) (bb:=b1) (u:=xy) (v:=sx) (w:=sy) (ho:=by first|rfl|assumption|omega) (hp:=by first|rfl|assumption|omega) (hs:=by first|rfl|assumption|omega) (ht:=by first|rfl|assumption|omega)) (.c (j:=1) rfl .n) ?_)
  rintro ⟨w37,w48⟩ -
  dsimp only [List.append_eq,List.nil_append,List.cons_append]
  refine zG 23 (by kernel_rfl) (zMb (first:=[]) (cap:=[.pointer (some ⟨b1,0,none⟩)]) rfl rfl rfl rfl rfl (.c rfl (.c rfl (.c rfl .n))) ce35 (zIb (ar:=ar) (le:=le) (tp:=tp) (rt:=rt) (bt:=bt) (sx:=sx) (sy:=sy) (xx:=xx) (xy:=xy) (yy:=yy) (ms:=ms) (mx:=mx) (my:=my) (bb:=b1) (u:=yy) (v:=sy) (w:=sy) (ho:=by first|rfl|assumption|omega) (hp:=by first|rfl|assumption|omega) (hs:=by first|rfl|assumption|omega) (ht:=by first|rfl|assumption|omega)) (.c (j:=2) rfl .n) ?_)
  rintro ⟨w39,w410⟩ -
  dsimp only [List.append_eq,List.nil_append,List.cons_append]
  refine zG 24 (by kernel_rfl) (zz (by kernel_rfl) rfl rfl rfl rfl rfl sz42 rfl (.take (.take (.take (.take .nil)))) ?_)
  refine zGa (zga (i:=1) rfl)<|zG 25 (by kernel_rfl) (zz (by kernel_rfl) rfl rfl rfl rfl rfl sz42 rfl (.take (.take (.take (.take .nil)))) ?_)
  refine zGa (zga (i:=2) rfl)<|zG 26 (by kernel_rfl) (zz (by kernel_rfl) rfl rfl rfl rfl rfl sz42 rfl (.take (.take (.take (.take .nil)))) ?_)
  refine d_pv 27 rfl rfl (by kernel_rfl) (by kernel_rfl) rfl rfl (zd rfl)<|zY (by kernel_rfl)<|zf<|zI ?_
  exact zfe Tryz.results16 (w35,w46,w37,w48,w39,w410) trivial (zq 2 ty42 rfl rfl (.take (.take (.take (.take .nil))))) (zq 1 ty42 rfl rfl (.take (.take (.take (.take .nil))))) (zq 0 ty42 rfl rfl (.take (.take (.take (.take .nil))))) (zt rfl) (by rw [if_pos hok]) (ho:=(.n:PickO _ _ _)) ((.e (j:=2) rfl (by rw [if_pos hok,decide_eq_true hok]) (.e (j:=1) rfl (by rw [if_pos hok,decide_eq_true hok]) (.e (j:=0) rfl (by rw [if_pos hok,decide_eq_true hok]) .n))):SelR _ _ _)
theorem zmd {ar:Int} {le:Int} {tp:Int} {rt:Int} {bt:Int} {sx:Int} {sy:Int} {xx:Int} {xy:Int} {yy:Int} {ms:Int} {mx:Int} {my:Int} (hok:Bl.ok ar le tp rt bt sx sy xx xy yy ms mx my):Con Tryz.prog 16 [.agg #[.int .i64 (ar),.int .i64 (le),.int .i64 (tp),.int .i64 (rt),.int .i64 (bt),.int .i64 (sx),.int .i64 (sy),.int .i64 (xx),.int .i64 (xy),.int .i64 (yy),.int .i64 (ms),.int .i64 (mx),.int .i64 (my)]] [] [] (Y:=(Wd)×(Wd)×(Wd)×(Wd)×(Wd)×(Wd)) (fun y=>True) (fun y=> .tuple #[.agg #[y.1.b,y.1.l,y.2.1.b,y.2.1.l],.agg #[y.2.2.1.b,y.2.2.1.l,y.2.2.2.1.b,y.2.2.2.1.l],.agg #[y.2.2.2.2.1.b,y.2.2.2.2.1.l,y.2.2.2.2.2.b,y.2.2.2.2.2.l],.int .i64 (0)]) (fun y=>[]) (fun y=>[qF true y.1 y.2.1 (Rat.divInt (xx*ar - sx*sx) (ar*ar)),qF true y.2.2.1 y.2.2.2.1 (Rat.divInt (xy*ar - sx*sy) (ar*ar)),qF true y.2.2.2.2.1 y.2.2.2.2.2 (Rat.divInt (yy*ar - sy*sy) (ar*ar))]):=by
  have h:= @zSb ar le tp rt bt sx sy xx xy yy ms mx my
  simp only [if_pos hok,decide_eq_true hok] at h
  exact h
theorem zbd {ar:Int} {le:Int} {tp:Int} {rt:Int} {bt:Int} {sx:Int} {sy:Int} {xx:Int} {xy:Int} {yy:Int} {ms:Int} {mx:Int} {my:Int}:Con Tryz.prog 13 [.agg #[.int .i64 ar,.int .i64 le,.int .i64 tp,.int .i64 rt,.int .i64 bt,.int .i64 sx,.int .i64 sy,.int .i64 xx,.int .i64 xy,.int .i64 yy,.int .i64 ms,.int .i64 mx,.int .i64 my]] [] [] (Y:=Wd×Wd×Wd×Wd) (fun y=>True) (fun y=> .tuple #[.agg #[y.1.b,y.1.l,y.2.1.b,y.2.1.l,y.2.2.1.b,y.2.2.1.l,y.2.2.2.b,y.2.2.2.l],.int .i64 (if Bl.ok ar le tp rt bt sx sy xx xy yy ms mx my then (if ms=0 then 13 else 0) else 1)]) (fun y=>[]) (fun y=>[qF (decide (Bl.ok ar le tp rt bt sx sy xx xy yy ms mx my∧ms≠0)) y.1 y.2.1 (if Bl.ok ar le tp rt bt sx sy xx xy yy ms mx my∧ms≠0 then Rat.divInt (2*mx+ms) (2*ms) else 0),qF (decide (Bl.ok ar le tp rt bt sx sy xx xy yy ms mx my∧ms≠0)) y.2.2.1 y.2.2.2 (if Bl.ok ar le tp rt bt sx sy xx xy yy ms mx my∧ms≠0 then Rat.divInt (2*my+ms) (2*ms) else 0)]):=by
 refine zr Tryz.func13 rfl rfl rfl (fun c=> ?_)
 show RunC _ _ _ _ _ [(0,.agg #[.int .i64 ar,.int .i64 le,.int .i64 tp,.int .i64 rt,.int .i64 bt,.int .i64 sx,.int .i64 sy,.int .i64 xx,.int .i64 xy,.int .i64 yy,.int .i64 ms,.int .i64 mx,.int .i64 my])] [] []
 refine zi<|zc<|zJ rfl rfl (zT rfl rfl) (fun b1=> ?_)
 refine zJ rfl rfl (zu zr44 rfl) (fun b2=> ?_)
 refine r_pv rfl rfl (zd rfl)<|zj<|zf<|zi<|zi<|zc<|r_u rfl rfl (zg 1 ty33 rfl rfl (.take (.take (.take (.take (.take (.take (.take (.take (.take (.take (.take (.take (.take .nil))))))))))))))<|zL rfl rfl (.c rfl .n) ce12 (zVc (ar:=ar) (le:=le) (tp:=tp) (rt:=rt) (bt:=bt) (sx:=sx) (sy:=sy) (xx:=xx) (xy:=xy) (yy:=yy) (ms:=ms) (mx:=mx) (my:=my)) (.n)<|r_pv rfl rfl (zd rfl)<|zj<|zf<|zi<|zc<|r_pv rfl rfl (zb rfl)<|r_pv rfl rfl (zJa rfl rfl)<|zj<|zf<|zK rfl (fun hc=> ?_) (fun hc=> ?_)
 ·
  have hok:¬Bl.ok ar le tp rt bt sx sy xx xy yy ms mx my:=fun k=>hc (if_pos k)
  have hno:¬(Bl.ok ar le tp rt bt sx sy xx xy yy ms mx my∧ms≠0):=fun k=>hok k.1
  refine zi<|zc<|r_pv rfl rfl (zE zr44 rfl Tryz.underlying44 (.c sz42 (.c sz42 .n)) .n .n)<|r_pv rfl rfl (zb rfl)<|zl 0 rfl rfl rfl rfl rfl sz44 rfl (.take (.take (.take (.take (.take (.take (.take (.take .nil)))))))) .z<|r_pv rfl rfl (zd rfl)<|zj<|zf<|zI<|zv<|zib (qF false wz wz 0) (fun g _=>qF_none g) ?_
  exact zpa Tryz.results13 (wz,wz,wz,wz) trivial (zq 0 ty44 rfl rfl (.take (.take (.take (.take (.take (.take (.take (.take .nil))))))))) (zt rfl) (by simp only [if_neg hok];rfl) (ho:=(.n:PickO _ _ _)) ((.e (j:=0) rfl (by rw [if_neg hno,decide_eq_false hno]) (.e (j:=0) rfl (by rw [if_neg hno,decide_eq_false hno]) .n)):SelR _ _ _)
 ·
  have hok:Bl.ok ar le tp rt bt sx sy xx xy yy ms mx my:=Bl.c0.1 (Decidable.not_not.1 hc)
  have ho9:=hok
  unfold Bl.ok at ho9
  have e0:=Bl.mul_b (x:=ar) (y:=le) (m:=4096) (n:=63) (by omega) (by omega)
  have e1:=Bl.mul_b (x:=ar) (y:=rt) (m:=4096) (n:=63) (by omega) (by omega)
  have e2:=Bl.mul_b (x:=ar) (y:=tp) (m:=4096) (n:=63) (by omega) (by omega)
  have e3:=Bl.mul_b (x:=ar) (y:=bt) (m:=4096) (n:=63) (by omega) (by omega)
  have e4:=Bl.mul_b (x:=ms) (y:=le) (m:=268431360) (n:=63) (by omega) (by omega)
  have e5:=Bl.mul_b (x:=ms) (y:=rt) (m:=268431360) (n:=63) (by omega) (by omega)
  have e6:=Bl.mul_b (x:=ms) (y:=tp) (m:=268431360) (n:=63) (by omega) (by omega)
  have e7:=Bl.mul_b (x:=ms) (y:=bt) (m:=268431360) (n:=63) (by omega) (by omega)
  refine zD<|zf<|zi<|zi<|zc<|r_pv rfl rfl (zh Tryz.underlying33 rfl sz3 rfl rfl)<|r_u rfl rfl (ze 1 ty3 rfl rfl rfl)<|r_pv rfl rfl (zza rfl rfl)<|zj<|zf<|zK rfl (fun hm=> ?_) (fun hm=> ?_)
  ·
   have hno:¬(Bl.ok ar le tp rt bt sx sy xx xy yy ms mx my∧ms≠0):=fun k=>k.2 hm
   refine zi<|zc<|r_pv rfl rfl (zE zr44 rfl Tryz.underlying44 (.c sz42 (.c sz42 .n)) .n .n)<|zl 0 rfl rfl rfl rfl rfl sz44 rfl (.take (.take (.take (.take (.take (.take (.take (.take .nil)))))))) .z<|r_pv rfl rfl (zd rfl)<|zj<|zf<|zI<|zv<|zib (qF false wz wz 0) (fun g _=>qF_none g) ?_
   exact zpa Tryz.results13 (wz,wz,wz,wz) trivial (zq 0 ty44 rfl rfl (.take (.take (.take (.take (.take (.take (.take (.take .nil))))))))) (zt rfl) (by rw [if_pos hok,if_pos hm];rfl) (ho:=(.n:PickO _ _ _)) ((.e (j:=0) rfl (by rw [if_neg hno,decide_eq_false hno]) (.e (j:=0) rfl (by rw [if_neg hno,decide_eq_false hno]) .n)):SelR _ _ _)
  ·
   have hye:Bl.ok ar le tp rt bt sx sy xx xy yy ms mx my∧ms≠0:=⟨hok,hm⟩
   refine zD<|zf<|zi<|zaa (OW:=[boxA b2 44 [.bool false,.slice none 0 0,.bool false,.slice none 0 0,.bool false,.slice none 0 0,.bool false,.slice none 0 0]]) (O:=[boxA b1 33 [.int .i64 ar,.int .i64 le,.int .i64 tp,.int .i64 rt,.int .i64 bt,.int .i64 sx,.int .i64 sy,.int .i64 xx,.int .i64 xy,.int .i64 yy,.int .i64 ms,.int .i64 mx,.int .i64 my]]) 21 mixed (.then .ret) (by kernel_rfl)<|d_pv 0 rfl rfl (by kernel_rfl) (by kernel_rfl) rfl rfl (zh Tryz.underlying33 rfl sz3 rfl rfl)<|d_uw 1 rfl rfl (by kernel_rfl) (by kernel_rfl) (by kernel_rfl) rfl rfl (ze 1 ty3 rfl rfl rfl)<|d_pv 2 rfl rfl (by kernel_rfl) (by kernel_rfl) rfl rfl (zda (z:=(2*mx)) rfl rfl (w64 (by omega)))<|d_pv 3 rfl rfl (by kernel_rfl) (by kernel_rfl) rfl rfl (zh Tryz.underlying33 rfl sz3 rfl rfl)<|d_uw 4 rfl rfl (by kernel_rfl) (by kernel_rfl) (by kernel_rfl) rfl rfl (ze 1 ty3 rfl rfl rfl)<|d_pv 5 rfl rfl (by kernel_rfl) (by kernel_rfl) rfl rfl (zN (z:=((2*mx)+ms)) rfl rfl (w64 (by omega)))<|d_pv 6 rfl rfl (by kernel_rfl) (by kernel_rfl) rfl rfl (zh Tryz.underlying33 rfl sz3 rfl rfl)<|d_uw 7 rfl rfl (by kernel_rfl) (by kernel_rfl) (by kernel_rfl) rfl rfl (ze 1 ty3 rfl rfl rfl)<|d_pv 8 rfl rfl (by kernel_rfl) (by kernel_rfl) rfl rfl (zda (z:=(2*ms)) rfl rfl (w64 (by omega)))<|d_pv 10 rfl rfl (by kernel_rfl) (by kernel_rfl) rfl rfl (zh Tryz.underlying33 rfl sz3 rfl rfl)<|d_uw 11 rfl rfl (by kernel_rfl) (by kernel_rfl) (by kernel_rfl) rfl rfl (ze 1 ty3 rfl rfl rfl)<|d_pv 12 rfl rfl (by kernel_rfl) (by kernel_rfl) rfl rfl (zda (z:=(2*my)) rfl rfl (w64 (by omega)))<|d_pv 13 rfl rfl (by kernel_rfl) (by kernel_rfl) rfl rfl (zh Tryz.underlying33 rfl sz3 rfl rfl)<|d_uw 14 rfl rfl (by kernel_rfl) (by kernel_rfl) (by kernel_rfl) rfl rfl (ze 1 ty3 rfl rfl rfl)<|d_pv 15 rfl rfl (by kernel_rfl) (by kernel_rfl) rfl rfl (zN (z:=((2*my)+ms)) rfl rfl (w64 (by omega)))<|d_pv 16 rfl rfl (by kernel_rfl) (by kernel_rfl) rfl rfl (zh Tryz.underlying33 rfl sz3 rfl rfl)<|d_uw 17 rfl rfl (by kernel_rfl) (by kernel_rfl) (by kernel_rfl) rfl rfl (ze 1 ty3 rfl rfl rfl)<|d_pv 18 rfl rfl (by kernel_rfl) (by kernel_rfl) rfl rfl (zda (z:=(2*ms)) rfl rfl (w64 (by omega)))<|zG 9 (by kernel_rfl) (zw rfl rfl rfl rfl (.c rfl (.c rfl .n)) ce32 (zHb (z1:=((2*mx)+ms)) (z2:=(2*ms)) (hz1:=by first|rfl|assumption|omega) (hz2:=by first|rfl|assumption|omega) (hy:=by first|rfl|assumption|omega)) (.n) ?_)
   rintro ⟨w33,w44⟩ -
   dsimp only [List.append_eq,List.nil_append,List.cons_append]
   refine zG 19 (by kernel_rfl) (zw rfl rfl rfl rfl (.c rfl (.c rfl .n)) ce32 (zHb (z1:=((2*my)+ms)) (z2:=(2*ms)) (hz1:=by first|rfl|assumption|omega) (hz2:=by first|rfl|assumption|omega) (hy:=by first|rfl|assumption|omega)) (.n) ?_)
   rintro ⟨w35,w46⟩ -
   dsimp only [List.append_eq,List.nil_append,List.cons_append]
   refine d_pv 20 rfl rfl (by kernel_rfl) (by kernel_rfl) rfl rfl (zE zr44 rfl Tryz.underlying44 (.c sz42 (.c sz42 .n)) (.c rfl (.c rfl .n)) (.c rfl rfl rfl (.take (.take (.take (.take .nil)))) (.c rfl rfl rfl (.skip (.skip (.skip (.skip (.take (.take (.take (.take .nil)))))))) .n)))<|zG 21 (by kernel_rfl) (zz (by kernel_rfl) rfl rfl rfl rfl rfl sz44 rfl (.take (.take (.take (.take (.take (.take (.take (.take .nil)))))))) ?_)
   refine d_pv 22 rfl rfl (by kernel_rfl) (by kernel_rfl) rfl rfl (zd rfl)<|zY (by kernel_rfl)<|zf<|zI ?_
   exact zpa Tryz.results13 (w33,w44,w35,w46) trivial (zq 0 ty44 rfl rfl (.take (.take (.take (.take (.take (.take (.take (.take .nil))))))))) (zt rfl) (by rw [if_pos hok,if_neg hm]) (ho:=(.n:PickO _ _ _)) ((.e (j:=1) rfl (by rw [if_pos hye,decide_eq_true hye]) (.e (j:=0) rfl (by rw [if_pos hye,decide_eq_true hye]) .n)):SelR _ _ _)
theorem zJd {ar:Int} {le:Int} {tp:Int} {rt:Int} {bt:Int} {sx:Int} {sy:Int} {xx:Int} {xy:Int} {yy:Int} {ms:Int} {mx:Int} {my:Int} (hok:Bl.ok ar le tp rt bt sx sy xx xy yy ms mx my) (hm:ms≠0):Con Tryz.prog 13 [.agg #[.int .i64 (ar),.int .i64 (le),.int .i64 (tp),.int .i64 (rt),.int .i64 (bt),.int .i64 (sx),.int .i64 (sy),.int .i64 (xx),.int .i64 (xy),.int .i64 (yy),.int .i64 (ms),.int .i64 (mx),.int .i64 (my)]] [] [] (Y:=(Wd)×(Wd)×(Wd)×(Wd)) (fun y=>True) (fun y=> .tuple #[.agg #[y.1.b,y.1.l,y.2.1.b,y.2.1.l,y.2.2.1.b,y.2.2.1.l,y.2.2.2.b,y.2.2.2.l],.int .i64 (0)]) (fun y=>[]) (fun y=>[qF true y.1 y.2.1 (Rat.divInt (2*mx+ms) (2*ms)),qF true y.2.2.1 y.2.2.2 (Rat.divInt (2*my+ms) (2*ms))]):=by
  have h:= @zbd ar le tp rt bt sx sy xx xy yy ms mx my
  have h2:Bl.ok ar le tp rt bt sx sy xx xy yy ms mx my∧ms≠0:=⟨hok,hm⟩
  simp only [if_pos hok,if_neg hm,if_pos h2,decide_eq_true h2] at h
  exact h
end Go.Proofs.YtefbbhiaalcjfaaGreat.Sp
namespace Go.Proofs.YtefbbhiaalcjfaaGreat.Sp
open Go
set_option linter.unusedVariables false
set_option maxRecDepth 100000
set_option maxHeartbeats 1000000
theorem zXd {w:Int} {h:Int} {m:Int} {p:Option Addr} {n:Nat} {cap:Nat} {bb:Nat} {u:Int}:Con Tryz.prog 81 [.int .i64 u,.pointer (some ⟨bb,0,none⟩)] [] [atF bb 0 [.int .i64 w,.int .i64 h,.int .i64 m,.slice p n cap]] (Y:=Unit) (fun y=>True) (fun y=> .bool (decide (u<0∨m<u))) (fun y=>[]) (fun y=>[]):=by
 refine zr Tryz.func81 rfl rfl rfl (fun c=> ?_)
 show RunC _ _ _ _ _ [(0,.int .i64 u),(1,.pointer (some ⟨bb,0,none⟩))] [] [atF bb 0 [.int .i64 w,.int .i64 h,.int .i64 m,.slice p n cap]]
 refine zi<|zc<|r_pv rfl rfl (zd rfl)<|zj<|zf<|zQa (X:=Unit) (fun x=>True) (fun x=>[(3,.bool (decide ((u<0)∨(m<u))))]) (fun x=>[]) (fun x=>[atF bb 0 [.int .i64 w,.int .i64 h,.int .i64 m,.slice p n cap]]) ?_ ?_
 ·
  refine zc<|r_pv rfl rfl (zb rfl)<|r_pv rfl rfl (zfa rfl rfl)<|zO rfl rfl (zb rfl) (fun h1=> ?_) (fun h1=> ?_)
  ·
   refine za rfl rfl<|za rfl rfl<|za rfl rfl<|za rfl rfl<|r_pv rfl rfl (zk rfl rfl)<|r_pv rfl rfl (zd rfl)<|zj ?_
   exact zZ () (show True from by first|trivial|omega|simp_all) ((.e rfl (congrArg Value.bool (by first|(simp_all;done)|(simp_all;omega)|(simp;omega)|omega)) .n):SubM _ _) (ho:=(.n:PickO _ _ _)) ((.c (j:=0) rfl .n):SelR _ _ _)
  ·
   refine r_pv rfl rfl (zb rfl)<|r_pv rfl rfl (zh Tryz.underlying24 rfl sz3 rfl rfl)<|r_u rfl rfl (zo (j:=2) 0 ty3 rfl rfl rfl rfl)<|r_pv rfl rfl (zBa rfl rfl)<|r_pv rfl rfl (zk rfl rfl)<|r_pv rfl rfl (zd rfl)<|zj ?_
   exact zZ () (show True from by first|trivial|omega|simp_all) ((.e rfl (congrArg Value.bool (by first|(simp_all;done)|(simp_all;omega)|(simp;omega)|omega)) .n):SubM _ _) (ho:=(.n:PickO _ _ _)) ((.c (j:=0) rfl .n):SelR _ _ _)
 ·
  rintro ⟨⟩ -
  try dsimp only
  refine zI ?_
  exact zB Tryz.results81 () trivial (zt rfl) rfl (ho:=(.n:PickO _ _ _)) (.n:SelR _ _ _)
theorem zQc {w:Int} {h:Int} {m:Int} {p:Option Addr} {n:Nat} {cap:Nat} {l:List Int} {bb:Nat} (hn:l.length=n):Con Tryz.prog 107 [.slice p n cap,.func (.func 81) #[] #[.pointer (some ⟨bb,0,none⟩)]] [] [slF (rI .i64) p cap l,atF bb 0 [.int .i64 w,.int .i64 h,.int .i64 m,.slice p n cap]] (Y:=Int) (fun y=>(0≤y↔∃g∈l,g<0∨m<g)) (fun y=> .int .i64 y) (fun y=>[]) (fun y=>[]):=by
 refine zr Tryz.func107 rfl rfl rfl (fun c=> ?_)
 show RunC _ _ _ _ _ [(0,.slice p n cap),(1,.func (.func 81) #[] #[.pointer (some ⟨bb,0,none⟩)])] [] [slF (rI .i64) p cap l,atF bb 0 [.int .i64 w,.int .i64 h,.int .i64 m,.slice p n cap]]
 refine zba 0 rfl (fun hL0=> ?_)
 refine zi<|zc<|r_pv rfl rfl (zd rfl)<|zj<|zf<|zi<|zi<|zc<|r_pv rfl rfl (zb rfl)<|r_pv rfl rfl (zR Tryz.underlying22 rfl)<|r_pv rfl rfl (zb rfl)<|zj<|zf<|zM<|zoa (X:=Nat) (fun x:Nat=>x≤n∧∀j,j<x→¬(l.getD j 0<0∨m<l.getD j 0)) (fun x=>[(8,.int .i64 ((x:Nat):Int)),(7,.int .i64 ((n:Nat):Int)),(0,.slice p n cap),(1,.func (.func 81) #[] #[.pointer (some ⟨bb,0,none⟩)])]) (fun x=>[]) (fun x=>[slF (rI .i64) p cap l,atF bb 0 [.int .i64 w,.int .i64 h,.int .i64 m,.slice p n cap]]) (fun x:Nat=>n - x) 0 (show 0≤n∧∀j,j<0→¬(l.getD j 0<0∨m<l.getD j 0) from by exact ⟨by omega,fun j h=>by omega⟩) ((.e rfl (by first|rfl|(congr 1;omega)|simp_all) (.of rfl)):SubM _ _) (ho:=(.n:PickO _ _ _)) ((.of [0,1] rfl):SelR _ _ _) ?_
 rintro i hI
 replace hI:i≤n∧∀j,j<i→¬(l.getD j 0<0∨m<l.getD j 0):=hI
 try dsimp only
 obtain ⟨hi,hall⟩:=hI
 refine zi<|zc<|r_pv rfl rfl (zfa rfl rfl)<|zj<|zf<|zi<|zK rfl (fun h1=> ?_) (fun h1=> ?_)
 ·
  refine zD<|zf<|zi<|zM<|zi<|zc<|r_pv rfl rfl (zb rfl)<|r_pv rfl rfl (zd rfl)<|zj<|zf<|zi<|zc<|r_pv rfl rfl (zb rfl)<|r_pv rfl rfl (zb rfl)<|r_pv rfl rfl (zb rfl)<|zS (x0:=(l.getD i 0)) 0 i rfl Tryz.underlying22 sz3 rfl rfl rfl (by first|rfl|assumption|(simp_all;done)|omega) rfl rfl (gD (d:=0) (by omega)) (fun b2 o3 hok4=> ?_)
  replace hok4:=zn.1 hok4
  refine r_u rfl rfl (zo (j:=0) 0 ty3 rfl rfl rfl rfl)<|zAc (first:=[]) (cap:=[.pointer (some ⟨bb,0,none⟩)]) rfl rfl rfl (.c rfl .n) ce81 (zXd (w:=w) (h:=h) (m:=m) (p:=p) (n:=n) (cap:=cap) (bb:=bb) (u:=(l.getD i 0))) (.c (j:=2) rfl .n) ?_
  rintro ⟨⟩ -
  dsimp only [List.append_eq,List.nil_append,List.cons_append]
  refine zj<|zf<|zK rfl (fun hb=> ?_) (fun hb=> ?_)
  ·
   refine zi<|zc<|r_pv rfl rfl (zb rfl)<|r_pv rfl rfl (zd rfl)<|zj<|zf<|zI<|zea<|zv<|zv<|zea<|zv ?_
   exact zB Tryz.results107 ((i:Nat):Int) (⟨fun _=>⟨l.getD i 0,Big.getD_mem (by omega),hb⟩,fun _=>by omega⟩) (zt rfl) rfl (ho:=(.n:PickO _ _ _)) (.n:SelR _ _ _)
  ·
   refine zD<|zX<|zf<|zc<|r_pv rfl rfl (zN (z:=(((i+1):Nat):Int)) rfl rfl (w64 (by omega)))<|r_pv rfl rfl (zb rfl)<|zj<|zia (i+1) (show (i+1)≤n∧∀j,j<(i+1)→¬(l.getD j 0<0∨m<l.getD j 0) from by refine ⟨by omega,fun j hj=> ?_⟩;by_cases e:j=i;subst e;exact hb;exact hall j (by omega)) (by show n - (i+1)<n - i;omega) ((.of rfl):SubM _ _) (ho:=(.n:PickO _ _ _)) ((.of [1,2] rfl):SelR _ _ _)
 ·
  refine zla<|zp<|zp<|zC<|zf<|zi<|zc<|r_pv rfl rfl (zd rfl)<|zj<|zf<|zI ?_
  exact zB Tryz.results107 (-1) (⟨fun h=>by omega,fun ⟨g,hg,hb⟩=>by obtain ⟨j,hj,e⟩:=Big.mem_getD hg;have:=hall j (by omega);rw [e] at this;exact absurd hb this⟩) (zt rfl) rfl (ho:=(.n:PickO _ _ _)) (.n:SelR _ _ _)
theorem zmc {w:Int} {h:Int} {m:Int} {p:Option Addr} {n:Nat} {cap:Nat} {l:List Int} {bb:Nat} (hn:l.length=n):Con Tryz.prog 80 [.slice p n cap,.func (.func 81) #[] #[.pointer (some ⟨bb,0,none⟩)]] [] [slF (rI .i64) p cap l,atF bb 0 [.int .i64 w,.int .i64 h,.int .i64 m,.slice p n cap]] (Y:=Unit) (fun y=>True) (fun y=> .bool (decide (∃g∈l,g<0∨m<g))) (fun y=>[]) (fun y=>[]):=by
 refine zr Tryz.func80 rfl rfl rfl (fun c=> ?_)
 show RunC _ _ _ _ _ [(0,.slice p n cap),(1,.func (.func 81) #[] #[.pointer (some ⟨bb,0,none⟩)])] [] [slF (rI .i64) p cap l,atF bb 0 [.int .i64 w,.int .i64 h,.int .i64 m,.slice p n cap]]
 refine zba 0 rfl (fun hL0=> ?_)
 refine zi<|zc<|r_pv rfl rfl (zd rfl)<|zj<|zf<|zi<|zc<|r_pv rfl rfl (zb rfl)<|r_pv rfl rfl (zb rfl)<|zx rfl rfl (.c rfl (.c rfl .n)) ce107 (zQc (w:=w) (h:=h) (m:=m) (p:=p) (n:=n) (cap:=cap) (l:=l) (bb:=bb) (hn:=by assumption)) (.c (j:=0) rfl (.c (j:=1) rfl .n)) ?_
 rintro r1 hr
 dsimp only [List.append_eq,List.nil_append,List.cons_append]
 replace hr:(0≤r1↔∃g∈l,g<0∨m<g):=hr
 refine r_pv rfl rfl (zFa rfl rfl)<|r_pv rfl rfl (zd rfl)<|zj<|zf<|zI ?_
 exact zB Tryz.results80 () trivial (zt rfl) (congrArg Value.bool (decide_eq_decide.2 hr.symm)) (ho:=(.n:PickO _ _ _)) (.n:SelR _ _ _)
theorem zDe {w:Int} {h:Int} {m:Int} {p:Option Addr} {n:Nat} {cap:Nat} {l:List Int} (hn:l.length=n):Con Tryz.prog 54 [.agg #[.int .i64 w,.int .i64 h,.int .i64 m,.slice p n cap]] [] [slF (rI .i64) p cap l] (Y:=Unit) (fun y=>True) (fun y=> .int .i64 (if Bl.rok w h m l then 0 else 1)) (fun y=>[]) (fun y=>[]):=by
 refine zr Tryz.func54 rfl rfl rfl (fun c=> ?_)
 show RunC _ _ _ _ _ [(0,.agg #[.int .i64 w,.int .i64 h,.int .i64 m,.slice p n cap])] [] [slF (rI .i64) p cap l]
 refine zba 0 rfl (fun hL0=> ?_)
 refine zi<|zc<|zJ rfl rfl (zT rfl rfl) (fun b1=> ?_)
 refine r_pv rfl rfl (zd rfl)<|zj<|zf<|zi<|zQa (X:=Unit) (fun x=>True) (fun x=>[(34,.bool (decide (¬((1≤w∧w≤64)∧(1≤h∧h≤64)∧(1≤m∧m≤65535)∧(n:Int)=w*h)))),(2,.int .i64 0),(1,.pointer (some ⟨b1,0,none⟩))]) (fun x=>[boxA b1 24 [.int .i64 w,.int .i64 h,.int .i64 m,.slice p n cap]]) (fun x=>[slF (rI .i64) p cap l]) ?_ ?_
 ·
  refine zc<|r_pv rfl rfl (zh Tryz.underlying24 rfl sz3 rfl rfl)<|r_u rfl rfl (ze 0 ty3 rfl rfl rfl)<|r_pv rfl rfl (zh Tryz.underlying24 rfl sz3 rfl rfl)<|r_u rfl rfl (ze 0 ty3 rfl rfl rfl)<|r_pv rfl rfl (zh Tryz.underlying24 rfl sz3 rfl rfl)<|r_u rfl rfl (ze 0 ty3 rfl rfl rfl)<|r_pv rfl rfl (zSf rfl rfl rfl)<|r_pv rfl rfl (zfa rfl rfl)<|zO rfl rfl (zb rfl) (fun h2=> ?_) (fun h2=> ?_)
  ·
   refine za rfl rfl<|za rfl rfl<|za rfl rfl<|za rfl rfl<|za rfl rfl<|za rfl rfl<|r_pv rfl rfl (zk rfl rfl)<|r_pv rfl rfl (zb rfl)<|za rfl rfl<|za rfl rfl<|za rfl rfl<|r_pv rfl rfl (zk rfl rfl)<|r_pv rfl rfl (zb rfl)<|za rfl rfl<|za rfl rfl<|za rfl rfl<|za rfl rfl<|za rfl rfl<|za rfl rfl<|za rfl rfl<|za rfl rfl<|za rfl rfl<|r_pv rfl rfl (zk rfl rfl)<|zj ?_
   exact zZ () (show True from by first|trivial|omega|simp_all) ((.e rfl (congrArg Value.bool (by exact Eq.symm (decide_eq_true (by omega)))) (.c rfl (.c rfl .n))):SubM _ _) (ho:=((.c (i:=0) rfl .n):PickO _ _ _)) ((.c (j:=0) rfl .n):SelR _ _ _)
  ·
   refine r_pv rfl rfl (zh Tryz.underlying24 rfl sz3 rfl rfl)<|r_u rfl rfl (ze 0 ty3 rfl rfl rfl)<|r_pv rfl rfl (zh Tryz.underlying24 rfl sz3 rfl rfl)<|r_u rfl rfl (ze 0 ty3 rfl rfl rfl)<|r_pv rfl rfl (zae rfl rfl)<|r_pv rfl rfl (zBa rfl rfl)<|r_pv rfl rfl (zk rfl rfl)<|zO rfl rfl (zb rfl) (fun h3=> ?_) (fun h3=> ?_)
   ·
    refine za rfl rfl<|za rfl rfl<|za rfl rfl<|r_pv rfl rfl (zk rfl rfl)<|r_pv rfl rfl (zb rfl)<|za rfl rfl<|za rfl rfl<|za rfl rfl<|za rfl rfl<|za rfl rfl<|za rfl rfl<|za rfl rfl<|za rfl rfl<|za rfl rfl<|r_pv rfl rfl (zk rfl rfl)<|zj ?_
    exact zZ () (show True from by first|trivial|omega|simp_all) ((.e rfl (congrArg Value.bool (by exact Eq.symm (decide_eq_true (by omega)))) (.c rfl (.c rfl .n))):SubM _ _) (ho:=((.c (i:=0) rfl .n):PickO _ _ _)) ((.c (j:=0) rfl .n):SelR _ _ _)
   ·
    refine r_pv rfl rfl (zh Tryz.underlying24 rfl sz3 rfl rfl)<|r_u rfl rfl (ze 0 ty3 rfl rfl rfl)<|r_pv rfl rfl (zBa rfl rfl)<|r_pv rfl rfl (zk rfl rfl)<|zO rfl rfl (zb rfl) (fun h4=> ?_) (fun h4=> ?_)
    ·
     refine za rfl rfl<|za rfl rfl<|za rfl rfl<|za rfl rfl<|za rfl rfl<|za rfl rfl<|za rfl rfl<|za rfl rfl<|za rfl rfl<|r_pv rfl rfl (zk rfl rfl)<|zj ?_
     exact zZ () (show True from by first|trivial|omega|simp_all) ((.e rfl (congrArg Value.bool (by exact Eq.symm (decide_eq_true (by omega)))) (.c rfl (.c rfl .n))):SubM _ _) (ho:=((.c (i:=0) rfl .n):PickO _ _ _)) ((.c (j:=0) rfl .n):SelR _ _ _)
    ·
     refine r_pv rfl rfl (zh Tryz.underlying24 rfl sz22 rfl rfl)<|r_u rfl rfl (ze 0 ty22 rfl rfl rfl)<|r_pv rfl rfl (zR Tryz.underlying22 rfl)<|r_pv rfl rfl (zh Tryz.underlying24 rfl sz3 rfl rfl)<|r_u rfl rfl (ze 0 ty3 rfl rfl rfl)<|r_pv rfl rfl (zh Tryz.underlying24 rfl sz3 rfl rfl)<|r_u rfl rfl (ze 0 ty3 rfl rfl rfl)<|r_pv rfl rfl (zda (z:=(w*h)) rfl rfl (w64 (by first|omega|(have:=Bl.mul_b (x:=w) (y:=h) (m:=64) (n:=64) (by omega) (by omega);omega))))<|r_pv rfl rfl (zJa rfl rfl)<|r_pv rfl rfl (zk rfl rfl)<|zj ?_
     exact zZ () (show True from by first|trivial|omega|simp_all) ((.e rfl (congrArg Value.bool (by exact decide_eq_decide.2 (by constructor <;> intro k <;> omega))) (.c rfl (.c rfl .n))):SubM _ _) (ho:=((.c (i:=0) rfl .n):PickO _ _ _)) ((.c (j:=0) rfl .n):SelR _ _ _)
 ·
  rintro ⟨⟩ -
  try dsimp only
  refine zK rfl (fun h5=> ?_) (fun h5=> ?_)
  ·
   refine zi<|zc<|r_pv rfl rfl (zd rfl)<|zj<|zf<|zI<|zv ?_
   exact zB Tryz.results54 () trivial (zt rfl) (by rw [if_neg (fun k=>by unfold Bl.rok at k;omega)]) (ho:=(.n:PickO _ _ _)) (.n:SelR _ _ _)
  ·
   refine zD<|zf<|zi<|zi<|zWb 0 rfl .z<|zc<|r_pv rfl rfl (zh Tryz.underlying24 rfl sz22 rfl rfl)<|r_u rfl rfl (zo (j:=3) 0 ty22 rfl rfl rfl rfl)<|r_pv rfl rfl (zob .n (.c rfl .n))<|zL rfl rfl (.c rfl (.c rfl .n)) ce80 (zmc (w:=w) (h:=h) (m:=m) (p:=p) (n:=n) (cap:=cap) (l:=l) (bb:=b1) (hn:=by assumption)) (.c (j:=1) rfl (.c (j:=0) rfl .n))<|zj<|zf<|zK rfl (fun hx=> ?_) (fun hx=> ?_)
   ·
    refine zi<|zc<|r_pv rfl rfl (zd rfl)<|zj<|zf<|zI<|zv ?_
    exact zB Tryz.results54 () trivial (zt rfl) (by rw [if_neg (fun k=>k.2.2.2.2 hx)]) (ho:=(.n:PickO _ _ _)) (.n:SelR _ _ _)
   ·
    refine zD<|zf<|zi<|zc<|r_pv rfl rfl (zd rfl)<|zj<|zf<|zI ?_
    exact zB Tryz.results54 () trivial (zt rfl) (by rw [if_pos (show Bl.rok w h m l from ⟨by omega,by omega,by omega,by omega,hx⟩)]) (ho:=(.n:PickO _ _ _)) (.n:SelR _ _ _)
end Go.Proofs.YtefbbhiaalcjfaaGreat.Sp
namespace Go.Proofs.YtefbbhiaalcjfaaGreat.Sp
open Go
set_option linter.unusedVariables false
set_option maxRecDepth 100000
set_option maxHeartbeats 1000000
theorem zTb {w:Int} {h:Int} {m:Int} {p:Option Addr} {n:Nat} {cap:Nat} {l:List Int} {th:Int} (hn:l.length=n):Con Tryz.prog 24 [.agg #[.int .i64 w,.int .i64 h,.int .i64 m,.slice p n cap],.int .i64 th] [] [slF (rI .i64) p cap l] (Y:=Unit) (fun y=>True) (fun y=> .int .i64 (if Bl.rok w h m l then (if 0≤th∧th≤65536 then 0 else 2) else 1)) (fun y=>[]) (fun y=>[]):=by
 refine zr Tryz.func24 rfl rfl rfl (fun c=> ?_)
 show RunC _ _ _ _ _ [(0,.agg #[.int .i64 w,.int .i64 h,.int .i64 m,.slice p n cap]),(1,.int .i64 th)] [] [slF (rI .i64) p cap l]
 refine zba 0 rfl (fun hL0=> ?_)
 refine zi<|zc<|zJ rfl rfl (zT rfl rfl) (fun b1=> ?_)
 refine r_pv rfl rfl (zd rfl)<|zj<|zf<|zi<|zi<|zc<|r_u rfl rfl (zg 0 ty24 rfl rfl (.take (.take (.take (.take .nil)))))<|zL rfl rfl (.c rfl .n) ce54 (zDe (w:=w) (h:=h) (m:=m) (p:=p) (n:=n) (cap:=cap) (l:=l) (hn:=by assumption)) (.c (j:=0) rfl .n)<|r_pv rfl rfl (zd rfl)<|zj<|zf<|zi<|zc<|r_pv rfl rfl (zb rfl)<|r_pv rfl rfl (zJa rfl rfl)<|zj<|zf<|zK rfl (fun hc=> ?_) (fun hc=> ?_)
 ·
  have hno:¬Bl.rok w h m l:=fun k=>hc (if_pos k)
  refine zi<|zc<|r_pv rfl rfl (zb rfl)<|r_pv rfl rfl (zd rfl)<|zj<|zf<|zI<|zv ?_
  exact zB Tryz.results24 () trivial (zt rfl) (by simp only [if_neg hno]) (ho:=(.n:PickO _ _ _)) (.n:SelR _ _ _)
 ·
  have hok:Bl.rok w h m l:=Bl.c0.1 (Decidable.not_not.1 hc)
  refine zD<|zf<|zi<|zQa (X:=Unit) (fun x=>True) (fun x=>[(16,.bool (decide (¬(0≤th∧th≤65536)))),(4,.int .i64 0)]) (fun x=>[boxA b1 24 [.int .i64 w,.int .i64 h,.int .i64 m,.slice p n cap]]) (fun x=>[slF (rI .i64) p cap l]) ?_ ?_
  ·
   refine zc<|r_pv rfl rfl (zb rfl)<|r_pv rfl rfl (zfa rfl rfl)<|zO rfl rfl (zb rfl) (fun h2=> ?_) (fun h2=> ?_)
   ·
    refine za rfl rfl<|za rfl rfl<|r_pv rfl rfl (zk rfl rfl)<|zj ?_
    exact zZ () (show True from by first|trivial|omega|simp_all) ((.e rfl (congrArg Value.bool (by exact Eq.symm (decide_eq_true (by omega)))) (.c rfl .n)):SubM _ _) (ho:=((.c (i:=0) rfl .n):PickO _ _ _)) ((.c (j:=0) rfl .n):SelR _ _ _)
   ·
    refine r_pv rfl rfl (zb rfl)<|r_pv rfl rfl (zBa rfl rfl)<|r_pv rfl rfl (zk rfl rfl)<|zj ?_
    exact zZ () (show True from by first|trivial|omega|simp_all) ((.e rfl (congrArg Value.bool (by exact decide_eq_decide.2 (by constructor <;> intro k <;> omega))) (.c rfl .n)):SubM _ _) (ho:=((.c (i:=0) rfl .n):PickO _ _ _)) ((.c (j:=0) rfl .n):SelR _ _ _)
  ·
   rintro ⟨⟩ -
   try dsimp only
   refine zK rfl (fun ht=> ?_) (fun ht=> ?_)
   ·
    refine zi<|zc<|r_pv rfl rfl (zd rfl)<|zj<|zf<|zI<|zv ?_
    exact zB Tryz.results24 () trivial (zt rfl) (by rw [if_pos hok,if_neg ht]) (ho:=(.n:PickO _ _ _)) (.n:SelR _ _ _)
   ·
    refine zD<|zf<|zi<|zc<|r_pv rfl rfl (zd rfl)<|zj<|zf<|zI ?_
    exact zB Tryz.results24 () trivial (zt rfl) (by rw [if_pos hok,if_pos (Decidable.not_not.1 ht)]) (ho:=(.n:PickO _ _ _)) (.n:SelR _ _ _)
end Go.Proofs.YtefbbhiaalcjfaaGreat.Sp
namespace Go.Proofs.YtefbbhiaalcjfaaGreat.Sp
open Go
set_option linter.unusedVariables false
set_option maxRecDepth 100000
set_option maxHeartbeats 1000000
theorem zrc {g:Int} {th:Int} {tb:Nat}:Con Tryz.prog 55 [.int .i64 g,.pointer (some ⟨tb,0,none⟩)] [] [atF tb 0 [.int .i64 th]] (Y:=Unit) (fun y=>True) (fun y=> .bool (decide (th≤g))) (fun y=>[]) (fun y=>[]):=by
 refine zr Tryz.func55 rfl rfl rfl (fun c=> ?_)
 show RunC _ _ _ _ _ [(0,.int .i64 g),(1,.pointer (some ⟨tb,0,none⟩))] [] [atF tb 0 [.int .i64 th]]
 refine zi<|zc<|r_pv rfl rfl (zd rfl)<|zj<|zf<|zi<|zc<|r_pv rfl rfl (zb rfl)<|r_u rfl rfl (zo (j:=0) 0 ty3 rfl rfl rfl rfl)<|r_pv rfl rfl (zFa rfl rfl)<|r_pv rfl rfl (zd rfl)<|zj<|zf<|zI ?_
 exact zB Tryz.results55 () trivial (zt rfl) rfl (ho:=(.n:PickO _ _ _)) (.n:SelR _ _ _)
theorem zcd {g:Int} {th:Int} {tb:Nat}:Con Tryz.prog 50 [.int .i64 g,.pointer (some ⟨tb,0,none⟩)] [] [atF tb 0 [.int .i64 th]] (Y:=Unit) (fun y=>True) (fun y=> .bool (decide (g<th))) (fun y=>[]) (fun y=>[]):=by
 refine zr Tryz.func50 rfl rfl rfl (fun c=> ?_)
 show RunC _ _ _ _ _ [(0,.int .i64 g),(1,.pointer (some ⟨tb,0,none⟩))] [] [atF tb 0 [.int .i64 th]]
 refine zi<|zc<|r_pv rfl rfl (zd rfl)<|zj<|zf<|zi<|zc<|r_pv rfl rfl (zb rfl)<|r_u rfl rfl (zo (j:=0) 0 ty3 rfl rfl rfl rfl)<|r_pv rfl rfl (zfa rfl rfl)<|r_pv rfl rfl (zd rfl)<|zj<|zf<|zI ?_
 exact zB Tryz.results50 () trivial (zt rfl) rfl (ho:=(.n:PickO _ _ _)) (.n:SelR _ _ _)
end Go.Proofs.YtefbbhiaalcjfaaGreat.Sp
namespace Go.Proofs.YtefbbhiaalcjfaaGreat.Sp
open Go
set_option linter.unusedVariables false
set_option maxRecDepth 100000
set_option maxHeartbeats 1000000
theorem zIf:Con Tryz.prog 56 [] [] [] (Y:=(Option Addr)×Nat) (fun y=>True) (fun y=> .slice (y.1) 4 (y.2)) (fun y=>[]) (fun y=>[slF (rI2 .i64) (y.1) (y.2) ([((1:Int),(0:Int)),(-1,0),(0,1),(0,-1)])]):=by
 refine zr Tryz.func56 rfl rfl rfl (fun c=> ?_)
 show RunC _ _ _ _ _ [] [] []
 refine zi<|zc<|r_pv rfl rfl (zd rfl)<|zj<|zf<|zi<|zc<|r_pv rfl rfl (zna zr91 rfl Tryz.underlying91 sz3 (.c rfl (.c rfl .n)) (.c rfl rfl rfl (.take .nil) (.c rfl rfl rfl (.skip (.take .nil)) .n)))<|r_pv rfl rfl (zna zr91 rfl Tryz.underlying91 sz3 (.c rfl (.c rfl .n)) (.c rfl rfl rfl (.take .nil) (.c rfl rfl rfl (.skip (.take .nil)) .n)))<|r_pv rfl rfl (zna zr91 rfl Tryz.underlying91 sz3 (.c rfl (.c rfl .n)) (.c rfl rfl rfl (.take .nil) (.c rfl rfl rfl (.skip (.take .nil)) .n)))<|r_pv rfl rfl (zna zr91 rfl Tryz.underlying91 sz3 (.c rfl (.c rfl .n)) (.c rfl rfl rfl (.take .nil) (.c rfl rfl rfl (.skip (.take .nil)) .n)))<|zxa rfl rfl (zP (enc:=fun z:Int×Int=>[.int .i64 z.1,.int .i64 z.2]) (ok:=fun z=>InK .i64 z.1∧InK .i64 z.2) (h1:=fun _=>rfl) (h2:=fun _=>rfl) (k:=4) Tryz.underlying76 inf91 rfl (by decide) (by decide) (by decide) (.c (x:=(1,0)) rfl rfl (fun _ _=>by exact ⟨zn.2 (by first|omega|decide|(dsimp only;omega)),zn.2 (by first|omega|decide|(dsimp only;omega))⟩) (.c (x:=((-1),0)) rfl rfl (fun _ _=>by exact ⟨zn.2 (by first|omega|decide|(dsimp only;omega)),zn.2 (by first|omega|decide|(dsimp only;omega))⟩) (.c (x:=(0,1)) rfl rfl (fun _ _=>by exact ⟨zn.2 (by first|omega|decide|(dsimp only;omega)),zn.2 (by first|omega|decide|(dsimp only;omega))⟩) (.c (x:=(0,(-1))) rfl rfl (fun _ _=>by exact ⟨zn.2 (by first|omega|decide|(dsimp only;omega)),zn.2 (by first|omega|decide|(dsimp only;omega))⟩) .n))))) (fun b1 _=> ?_)
 refine r_pv rfl rfl (zd rfl)<|zj<|zf<|zI<|zcb 0 rfl .z ?_
 exact zB Tryz.results56 (some ⟨b1,0,none⟩,4) trivial (zt rfl) rfl (ho:=(.n:PickO _ _ _)) ((.c (j:=0) rfl .n):SelR _ _ _)
end Go.Proofs.YtefbbhiaalcjfaaGreat.Sp
namespace Go.Proofs.YtefbbhiaalcjfaaGreat.Sp
open Go
set_option linter.unusedVariables false
set_option maxRecDepth 100000
set_option maxHeartbeats 1000000
theorem zhf:Con Tryz.prog 56 [] [] [] (Y:=(Option Addr)×Nat) (fun y=>True) (fun y=> .slice (y.1) 4 (y.2)) (fun y=>[rowA 91 (rI2 .i64) (y.1) (y.2) ([((1:Int),(0:Int)),(-1,0),(0,1),(0,-1)])]) (fun y=>[]):=by
 refine zr Tryz.func56 rfl rfl rfl (fun c=> ?_)
 show RunC _ _ _ _ _ [] [] []
 refine zi<|zc<|r_pv rfl rfl (zd rfl)<|zj<|zf<|zi<|zc<|r_pv rfl rfl (zna zr91 rfl Tryz.underlying91 sz3 (.c rfl (.c rfl .n)) (.c rfl rfl rfl (.take .nil) (.c rfl rfl rfl (.skip (.take .nil)) .n)))<|r_pv rfl rfl (zna zr91 rfl Tryz.underlying91 sz3 (.c rfl (.c rfl .n)) (.c rfl rfl rfl (.take .nil) (.c rfl rfl rfl (.skip (.take .nil)) .n)))<|r_pv rfl rfl (zna zr91 rfl Tryz.underlying91 sz3 (.c rfl (.c rfl .n)) (.c rfl rfl rfl (.take .nil) (.c rfl rfl rfl (.skip (.take .nil)) .n)))<|r_pv rfl rfl (zna zr91 rfl Tryz.underlying91 sz3 (.c rfl (.c rfl .n)) (.c rfl rfl rfl (.take .nil) (.c rfl rfl rfl (.skip (.take .nil)) .n)))<|zxa rfl rfl (zP (enc:=fun z:Int×Int=>[.int .i64 z.1,.int .i64 z.2]) (ok:=fun z=>InK .i64 z.1∧InK .i64 z.2) (h1:=fun _=>rfl) (h2:=fun _=>rfl) (k:=4) Tryz.underlying76 inf91 rfl (by decide) (by decide) (by decide) (.c (x:=(1,0)) rfl rfl (fun _ _=>by exact ⟨zn.2 (by first|omega|decide|(dsimp only;omega)),zn.2 (by first|omega|decide|(dsimp only;omega))⟩) (.c (x:=((-1),0)) rfl rfl (fun _ _=>by exact ⟨zn.2 (by first|omega|decide|(dsimp only;omega)),zn.2 (by first|omega|decide|(dsimp only;omega))⟩) (.c (x:=(0,1)) rfl rfl (fun _ _=>by exact ⟨zn.2 (by first|omega|decide|(dsimp only;omega)),zn.2 (by first|omega|decide|(dsimp only;omega))⟩) (.c (x:=(0,(-1))) rfl rfl (fun _ _=>by exact ⟨zn.2 (by first|omega|decide|(dsimp only;omega)),zn.2 (by first|omega|decide|(dsimp only;omega))⟩) .n))))) (fun b1 _=> ?_)
 refine r_pv rfl rfl (zd rfl)<|zj<|zf<|zI ?_
 exact zB Tryz.results56 (some ⟨b1,0,none⟩,4) trivial (zt rfl) rfl (ho:=((.c (i:=0) rfl .n):PickO _ _ _)) (.n:SelR _ _ _)
theorem zif:Con Tryz.prog 51 [] [] [] (Y:=(Option Addr)×Nat) (fun y=>True) (fun y=> .slice (y.1) 8 (y.2)) (fun y=>[]) (fun y=>[slF (rI2 .i64) (y.1) (y.2) ([((1:Int),(0:Int)),(-1,0),(0,1),(0,-1)]++[(1,1),(-1,1),(1,-1),(-1,-1)])]):=by
 refine zr Tryz.func51 rfl rfl rfl (fun c=> ?_)
 show RunC _ _ _ _ _ [] [] []
 refine zi<|zc<|r_pv rfl rfl (zd rfl)<|zj<|zf<|zi<|zc<|zx rfl rfl (.n) ce56 (zhf) (.n) ?_
 rintro ⟨p31,c32⟩ -
 dsimp only [List.append_eq,List.nil_append,List.cons_append]
 refine r_pv rfl rfl (zna zr91 rfl Tryz.underlying91 sz3 (.c rfl (.c rfl .n)) (.c rfl rfl rfl (.take .nil) (.c rfl rfl rfl (.skip (.take .nil)) .n)))<|r_pv rfl rfl (zna zr91 rfl Tryz.underlying91 sz3 (.c rfl (.c rfl .n)) (.c rfl rfl rfl (.take .nil) (.c rfl rfl rfl (.skip (.take .nil)) .n)))<|r_pv rfl rfl (zna zr91 rfl Tryz.underlying91 sz3 (.c rfl (.c rfl .n)) (.c rfl rfl rfl (.take .nil) (.c rfl rfl rfl (.skip (.take .nil)) .n)))<|r_pv rfl rfl (zna zr91 rfl Tryz.underlying91 sz3 (.c rfl (.c rfl .n)) (.c rfl rfl rfl (.take .nil) (.c rfl rfl rfl (.skip (.take .nil)) .n)))<|zxa rfl rfl (zP (enc:=fun z:Int×Int=>[.int .i64 z.1,.int .i64 z.2]) (ok:=fun z=>InK .i64 z.1∧InK .i64 z.2) (h1:=fun _=>rfl) (h2:=fun _=>rfl) (k:=4) Tryz.underlying76 inf91 rfl (by decide) (by decide) (by decide) (.c (x:=(1,1)) rfl rfl (fun _ _=>by exact ⟨zn.2 (by first|omega|decide|(dsimp only;omega)),zn.2 (by first|omega|decide|(dsimp only;omega))⟩) (.c (x:=((-1),1)) rfl rfl (fun _ _=>by exact ⟨zn.2 (by first|omega|decide|(dsimp only;omega)),zn.2 (by first|omega|decide|(dsimp only;omega))⟩) (.c (x:=(1,(-1))) rfl rfl (fun _ _=>by exact ⟨zn.2 (by first|omega|decide|(dsimp only;omega)),zn.2 (by first|omega|decide|(dsimp only;omega))⟩) (.c (x:=((-1),(-1))) rfl rfl (fun _ _=>by exact ⟨zn.2 (by first|omega|decide|(dsimp only;omega)),zn.2 (by first|omega|decide|(dsimp only;omega))⟩) .n))))) (fun b3 _=> ?_)
 refine zja 0 rfl .z<|zAa 1 rfl rfl rfl (zva 0 rfl Tryz.underlying76 inf91 (by decide) rfl rfl (by first|rfl|assumption|(simp_all;done)|omega) rfl (by first|rfl|assumption|(simp_all;done)|omega) (by omega) (by omega)) (fun _=>(.s .z)) ?_
 rintro ⟨p4,c5⟩ -
 dsimp only [List.append_eq,List.nil_append,List.cons_append]
 refine r_pv rfl rfl (zd rfl)<|zj<|zf<|zI<|zcb 1 rfl (.s .z) ?_
 exact zB Tryz.results51 (p4,c5) trivial (zt rfl) rfl (ho:=(.n:PickO _ _ _)) ((.c (j:=0) rfl .n):SelR _ _ _)
end Go.Proofs.YtefbbhiaalcjfaaGreat.Sp
namespace Go.Proofs.YtefbbhiaalcjfaaGreat.Sp
open Go
set_option linter.unusedVariables false
set_option maxRecDepth 100000
set_option maxHeartbeats 1000000
theorem zjf {p1:Option Addr} {n1:Nat} {c1:Nat} {l1:List Int} {p2:Option Addr} {n2:Nat} {c2:Nat} {l2:List Int} (hn1:l1.length=n1) (hn2:l2.length=n2):Con Tryz.prog 21 [.slice p1 n1 c1,.slice p2 n2 c2] [] [slF (rI .i64) p1 c1 l1,slF (rI .i64) p2 c2 l2] (Y:=Unit) (fun y=>True) (fun y=> .bool (decide (l1=l2))) (fun y=>[]) (fun y=>[]):=by
 refine zr Tryz.func21 rfl rfl rfl (fun c=> ?_)
 show RunC _ _ _ _ _ [(0,.slice p1 n1 c1),(1,.slice p2 n2 c2)] [] [slF (rI .i64) p1 c1 l1,slF (rI .i64) p2 c2 l2]
 refine zba 0 rfl (fun hL0=> ?_)
 refine zba 1 rfl (fun hL1=> ?_)
 refine zi<|zc<|r_pv rfl rfl (zd rfl)<|zj<|zf<|zi<|zi<|zc<|r_pv rfl rfl (zb rfl)<|r_pv rfl rfl (zR Tryz.underlying22 rfl)<|r_pv rfl rfl (zb rfl)<|r_pv rfl rfl (zR Tryz.underlying22 rfl)<|r_pv rfl rfl (zJa rfl rfl)<|zj<|zf<|zK rfl (fun hlen=> ?_) (fun hlen=> ?_)
 ·
  refine zi<|zc<|r_pv rfl rfl (zd rfl)<|zj<|zf<|zI<|zv ?_
  exact zB Tryz.results21 () trivial (zt rfl) (congrArg Value.bool (decide_eq_false (fun h=>hlen (by rw [← hn1,←hn2,h])))) (ho:=(.n:PickO _ _ _)) (.n:SelR _ _ _)
 ·
  refine zD<|zf<|zi<|zi<|zc<|r_pv rfl rfl (zb rfl)<|r_pv rfl rfl (zR Tryz.underlying22 rfl)<|r_pv rfl rfl (zb rfl)<|zj<|zf<|zM<|zoa (X:=Nat) (fun x:Nat=>x≤n1∧∀j,j<x→l1.getD j 0=l2.getD j 0) (fun x=>[(13,.int .i64 ((x:Nat):Int)),(12,.int .i64 ((n1:Nat):Int)),(0,.slice p1 n1 c1),(1,.slice p2 n2 c2)]) (fun x=>[]) (fun x=>[slF (rI .i64) p1 c1 l1,slF (rI .i64) p2 c2 l2]) (fun x:Nat=>n1 - x) 0 (show 0≤n1∧∀j,j<0→l1.getD j 0=l2.getD j 0 from by exact ⟨by omega,fun j h=>by omega⟩) ((.e rfl (by first|rfl|(congr 1;omega)|simp_all) (.of rfl)):SubM _ _) (ho:=(.n:PickO _ _ _)) ((.of [0,1] rfl):SelR _ _ _) ?_
  rintro i hI
  replace hI:i≤n1∧∀j,j<i→l1.getD j 0=l2.getD j 0:=hI
  try dsimp only
  obtain ⟨hi,hall⟩:=hI
  refine zi<|zc<|r_pv rfl rfl (zfa rfl rfl)<|zj<|zf<|zi<|zK rfl (fun h1=> ?_) (fun h1=> ?_)
  ·
   refine zD<|zf<|zi<|zM<|zi<|zc<|r_pv rfl rfl (zb rfl)<|r_pv rfl rfl (zd rfl)<|zj<|zf<|zi<|zaa (OW:=[]) (O:=[]) 100000 mixed (.then (.block (.then (.then (.block (.then .ret)))))) (by kernel_rfl)<|d_pv 0 rfl rfl (by kernel_rfl) (by kernel_rfl) rfl rfl (zb rfl)<|d_pv 1 rfl rfl (by kernel_rfl) (by kernel_rfl) rfl rfl (zb rfl)<|zua (x0:=(l1.getD i 0)) 2 rfl rfl (by kernel_rfl) (by kernel_rfl) 0 i rfl Tryz.underlying22 sz3 rfl rfl rfl (by first|rfl|assumption|(simp_all;done)|omega) rfl rfl (gD (d:=0) (by omega)) (fun b2 o3 hok4=> ?_)
   replace hok4:=zn.1 hok4
   refine d_u 3 rfl rfl (by kernel_rfl) (by kernel_rfl) rfl rfl (zo (j:=0) 0 ty3 rfl rfl rfl rfl)<|d_pv 4 rfl rfl (by kernel_rfl) (by kernel_rfl) rfl rfl (zb rfl)<|d_pv 5 rfl rfl (by kernel_rfl) (by kernel_rfl) rfl rfl (zb rfl)<|zua (x0:=(l2.getD i 0)) 6 rfl rfl (by kernel_rfl) (by kernel_rfl) 2 i rfl Tryz.underlying22 sz3 rfl rfl rfl (by first|rfl|assumption|(simp_all;done)|omega) rfl rfl (gD (d:=0) (by omega)) (fun b5 o6 hok7=> ?_)
   replace hok7:=zn.1 hok7
   refine d_u 7 rfl rfl (by kernel_rfl) (by kernel_rfl) rfl rfl (zo (j:=0) 0 ty3 rfl rfl rfl rfl)<|d_pv 8 rfl rfl (by kernel_rfl) (by kernel_rfl) rfl rfl (zJa rfl rfl)<|zY (by kernel_rfl)<|zf<|zK rfl (fun hd=> ?_) (fun hd=> ?_)
   ·
    refine zi<|zc<|r_pv rfl rfl (zd rfl)<|zj<|zf<|zI<|zea<|zv<|zv<|zea<|zv ?_
    exact zB Tryz.results21 () trivial (zt rfl) (congrArg Value.bool (decide_eq_false (fun h=>hd (by simp [h])))) (ho:=(.n:PickO _ _ _)) (.n:SelR _ _ _)
   ·
    refine zD<|zX<|zf<|zc<|r_pv rfl rfl (zN (z:=(((i+1):Nat):Int)) rfl rfl (w64 (by omega)))<|r_pv rfl rfl (zb rfl)<|zj<|zia (i+1) (show (i+1)≤n1∧∀j,j<(i+1)→l1.getD j 0=l2.getD j 0 from by refine ⟨by omega,fun j hj=> ?_⟩;by_cases e:j=i;rw [e];exact Decidable.not_not.1 hd;exact hall j (by omega)) (by show n1 - (i+1)<n1 - i;omega) ((.of rfl):SubM _ _) (ho:=(.n:PickO _ _ _)) ((.of [2,3] rfl):SelR _ _ _)
  ·
   refine zla<|zp<|zp<|zC<|zf<|zi<|zc<|r_pv rfl rfl (zd rfl)<|zj<|zf<|zI ?_
   exact zB Tryz.results21 () trivial (zt rfl) (congrArg Value.bool (decide_eq_true (Big.ext_getD (by omega) (fun j hj=>hall j (by omega))))) (ho:=(.n:PickO _ _ _)) (.n:SelR _ _ _)
end Go.Proofs.YtefbbhiaalcjfaaGreat.Sp
namespace Go.Proofs.YtefbbhiaalcjfaaGreat.Fl
inductive Conn (inn:Nat→Prop) (adj:Nat→Nat→Prop):Nat→Nat→Prop
  |refl (i:Nat):Conn inn adj i i
  |step {i j k:Nat}:inn i→inn j→adj i j→Conn inn adj j k→Conn inn adj i k
section
variable {n : Nat} {inn : Nat → Prop} {adj : Nat → Nat → Prop}
theorem Conn.trans {i j k:Nat} (h:Conn inn adj i j) (h2:Conn inn adj j k):Conn inn adj i k:=by
  induction h with
  |refl=>exact h2
  |step a b c _ ih=>exact .step a b c (ih h2)
theorem Conn.one {i j:Nat} (hi:inn i) (hj:inn j) (h:adj i j):Conn inn adj i j:= .step hi hj h (.refl j)
theorem Conn.symm (hs:∀i j,adj i j→adj j i) {i j:Nat} (h:Conn inn adj i j):Conn inn adj j i:=by
  induction h with
  |refl=>exact .refl _
  |step a b c _ ih=>exact ih.trans (Conn.one b a (hs _ _ c))
theorem Conn.mem {i j:Nat} (h:Conn inn adj i j) (hi:inn i):inn j:=by
  induction h with
  |refl=>exact hi
  |step _ b _ _ ih=>exact ih b
structure Lst (inn:Nat→Prop) (adj:Nat→Nat→Prop) (c:Nat→Nat):Prop where
  le:∀i,inn i→c i≤i
  conn:∀i,inn i→Conn inn adj i (c i)
  same:∀i k,inn i→inn k→adj i k→c i=c k
theorem Lst.const {c:Nat→Nat} (h:Lst inn adj c) {i j:Nat} (hc:Conn inn adj i j):c i=c j:=by
  induction hc with
  |refl=>rfl
  |step a b d _ ih=>rw [h.same _ _ a b d,ih]
theorem Lst.least {c:Nat→Nat} (h:Lst inn adj c) {i j:Nat} (hi:inn i) (hc:Conn inn adj i j):c i≤j:=by
  rw [h.const hc];exact h.le _ (hc.mem hi)
theorem Lst.idem {c:Nat→Nat} (h:Lst inn adj c) {i:Nat} (hi:inn i):c (c i)=c i:=(h.const (h.conn i hi)).symm
theorem Lst.mem {c:Nat→Nat} (h:Lst inn adj c) {i:Nat} (hi:inn i):inn (c i):=(h.conn i hi).mem hi
theorem Lst.uniq {c d:Nat→Nat} (h:Lst inn adj c) (k:Lst inn adj d) {i:Nat} (hi:inn i):c i=d i:=
  Nat.le_antisymm (h.least hi (k.conn i hi)) (k.least hi (h.conn i hi))
theorem Lst.iff {c:Nat→Nat} (h:Lst inn adj c) (hs:∀i j,adj i j→adj j i) {i j:Nat} (hi:inn i) (hj:inn j):c i=c j↔Conn inn adj i j:=
  ⟨fun e=>(h.conn i hi).trans (e ▸ (h.conn j hj).symm hs),h.const⟩
theorem Lst.exists (hs:∀i j,adj i j→adj j i):∃c,Lst inn adj c:=by
  have key:∀i,∃m,Conn inn adj i m∧∀j,Conn inn adj i j→m≤j:=fun i=>by
    have:∀b,∀m,m≤b→Conn inn adj i m→∃m,Conn inn adj i m∧∀j,Conn inn adj i j→m≤j:=fun b=>by
      induction b with
      |zero=>intro m hm hc;exact ⟨m,hc,fun j _=>by omega⟩
      |succ b ih=>
        intro m hm hc
        by_cases hx:∃j,Conn inn adj i j∧j<m
        · obtain ⟨j,hj,hlt⟩:=hx;exact ih j (by omega) hj
        · exact ⟨m,hc,fun j hj=>Nat.le_of_not_lt fun hlt=>hx ⟨j,hj,hlt⟩⟩
    exact this i i (Nat.le_refl _) (.refl i)
  refine ⟨fun i=>Classical.choose (key i),fun i _=>(Classical.choose_spec (key i)).2 i (.refl i),fun i _=>(Classical.choose_spec (key i)).1,fun i k hi hk ha=> ?_⟩
  have h1:=Classical.choose_spec (key i)
  have h2:=Classical.choose_spec (key k)
  exact Nat.le_antisymm (h1.2 _ ((Conn.one hi hk ha).trans h2.1)) (h2.2 _ ((Conn.one hk hi (hs _ _ ha)).trans h1.1))
end
def cnt (q:Nat→Bool) (i:Nat):Nat:=((List.range i).filter q).length
theorem cnt_succ (q:Nat→Bool) (i:Nat):cnt q (i+1)=cnt q i+if q i then 1 else 0:=by
  unfold cnt;rw [List.range_succ,List.filter_append,List.length_append]
  by_cases h:q i=true
  · simp [h]
  · simp [h]
theorem cnt_mono (q:Nat→Bool) {i j:Nat} (h:i≤j):cnt q i≤cnt q j:=by
  induction h with
  |refl=>exact Nat.le_refl _
  |step _ ih=>rw [cnt_succ];omega
theorem cnt_lt (q:Nat→Bool) {i j:Nat} (h:i<j) (hq:q i=true):cnt q i<cnt q j:=by
  have:=cnt_mono q (show i+1≤j from h);rw [cnt_succ,if_pos hq] at this;omega
theorem cnt_le (q:Nat→Bool) (i:Nat):cnt q i≤i:=by
  induction i with
  |zero=>exact Nat.le_refl _
  |succ i ih=>rw [cnt_succ];split <;> omega
section
variable {n : Nat} {f : Nat → Bool} {adj : Nat → Nat → Prop} {c : Nat → Nat}
def ldr (f:Nat→Bool) (c:Nat→Nat) (j:Nat):Bool:=f j&&decide (c j=j)
structure OutI (n:Nat) (f:Nat→Bool) (c:Nat→Nat) (i:Nat) (o:List Int):Prop where
  len:o.length=n
  old:∀j,j<n→f j=true→c j<i→o.getD j 0=(cnt (ldr f c) (c j):Int)
  new:∀j,j<n→¬(f j=true∧c j<i)→o.getD j 0= -1
structure Fld (n:Nat) (f:Nat→Bool) (adj:Nat→Nat→Prop) (c:Nat→Nat) (i:Nat) (o:List Int) (st:List Nat):Prop where
  len:o.length=n
  old:∀j,j<n→f j=true→c j<i→o.getD j 0=(cnt (ldr f c) (c j):Int)
  new:∀j,j<n→¬(f j=true∧c j<i)→o.getD j 0= -1∨(o.getD j 0=(cnt (ldr f c) i:Int)∧f j=true∧c j=i)
  self:o.getD i 0=(cnt (ldr f c) i:Int)
  stk:∀j,j∈st→j<n∧o.getD j 0=(cnt (ldr f c) i:Int)∧f j=true∧c j=i
  cls:∀j,j<n→f j=true→c j=i→o.getD j 0=(cnt (ldr f c) i:Int)→j∈st∨∀k,k<n→f k=true→adj j k→o.getD k 0=(cnt (ldr f c) i:Int)
theorem Fld.fin {i:Nat} {o:List Int} (hc:Lst (fun j=>f j=true) adj c) (hs:∀i j,adj i j→adj j i) (hb:∀j k,adj j k→k<n) (hi:i<n) (hf:f i=true) (h:Fld n f adj c i o []):OutI n f c (i+1) o:=by
  have walk:∀j k,Conn (fun j=>f j=true) adj j k→j<n→f j=true→c j=i→o.getD j 0=(cnt (ldr f c) i:Int)→o.getD k 0=(cnt (ldr f c) i:Int):=by
    intro j k hjk
    induction hjk with
    |refl=>intro _ _ _ h;exact h
    |step a b d e ih=>
      intro hj hfj hcj ho
      rcases h.cls _ hj hfj hcj ho with hm|hm
      · cases hm
      · exact ih (hb _ _ d) b (by rw [← hcj];exact (hc.same _ _ a b d).symm) (hm _ (hb _ _ d) b d)
  refine ⟨h.len,fun j hj hfj hlt=> ?_,fun j hj hn=> ?_⟩
  · by_cases e : c j < i
    · exact h.old j hj hfj e
    · have e2 : c j = i := by omega
      rw [e2]
      have hcon:=(hc.conn j hfj).symm hs
      rw [e2] at hcon
      exact walk i j hcon hi hf (by rw [← e2];exact hc.idem hfj) h.self
  · rcases h.new j hj (fun k => hn ⟨k.1, by omega⟩) with e | e
    · exact e
    · exact absurd ⟨e.2.1,by omega⟩ hn
structure FlP (n:Nat) (f:Nat→Bool) (adj:Nat→Nat→Prop) (c:Nat→Nat) (i:Nat) (o:List Int) (st:List Nat) (p:Nat) (D:Nat→Prop):Prop where
  len:o.length=n
  old:∀j,j<n→f j=true→c j<i→o.getD j 0=(cnt (ldr f c) (c j):Int)
  new:∀j,j<n→¬(f j=true∧c j<i)→o.getD j 0= -1∨(o.getD j 0=(cnt (ldr f c) i:Int)∧f j=true∧c j=i)
  self:o.getD i 0=(cnt (ldr f c) i:Int)
  stk:∀j,j∈st→j<n∧o.getD j 0=(cnt (ldr f c) i:Int)∧f j=true∧c j=i
  pop:p<n∧f p=true∧c p=i
  cls:∀j,j<n→f j=true→c j=i→o.getD j 0=(cnt (ldr f c) i:Int)→j∈st∨∀k,k<n→f k=true→adj j k→(j=p→D k)→o.getD k 0=(cnt (ldr f c) i:Int)
theorem Fld.pop {i p:Nat} {o:List Int} {st:List Nat} (h:Fld n f adj c i o (st++[p])):FlP n f adj c i o st p (fun _=>False):=by
  have hp:=h.stk p (by simp)
  refine ⟨h.len,h.old,h.new,h.self,fun j hj=>h.stk j (by simp [hj]),⟨hp.1,hp.2.2.1,hp.2.2.2⟩,fun j hj hfj hcj ho=> ?_⟩
  rcases h.cls j hj hfj hcj ho with hm|hm
  · rcases List.mem_append.1 hm with h1 | h1
    · exact .inl h1
    · exact .inr fun k _ _ _ hD=>absurd (hD (by simpa using h1)) id
  · exact .inr fun k a b d _=>hm k a b d
theorem FlP.done {i p:Nat} {o:List Int} {st:List Nat} {D:Nat→Prop} (h:FlP n f adj c i o st p D) (hD:∀k,adj p k→D k):Fld n f adj c i o st:=
  ⟨h.len,h.old,h.new,h.self,h.stk,fun j hj hfj hcj ho=>(h.cls j hj hfj hcj ho).imp id fun hm k a b d=>hm k a b d (fun e=>hD k (e ▸ d))⟩
theorem FlP.skip {i p:Nat} {o:List Int} {st:List Nat} {D E:Nat→Prop} (h:FlP n f adj c i o st p D) (hE:∀k,E k→D k∨(k<n→f k=true→adj p k→o.getD k 0=(cnt (ldr f c) i:Int))):FlP n f adj c i o st p E:=
  ⟨h.len,h.old,h.new,h.self,h.stk,h.pop,fun j hj hfj hcj ho=>(h.cls j hj hfj hcj ho).imp id fun hm k a b d e=>by
    by_cases e2:j=p
    · rcases hE k (e e2) with h1 | h1
      · exact hm k a b d (fun _=>h1)
      · exact h1 a b (e2 ▸ d)
    · exact hm k a b d (fun e3=>absurd e3 e2)⟩
theorem FlP.seen {i p k:Nat} {o:List Int} {st:List Nat} {D:Nat→Prop} (hc:Lst (fun j=>f j=true) adj c) (h:FlP n f adj c i o st p D) (hk:k<n) (hf:f k=true) (ha:adj p k) (ho:¬o.getD k 0<0):o.getD k 0=(cnt (ldr f c) i:Int):=by
  have e:c k=i:=by rw [← hc.same p k h.pop.2.1 hf ha];exact h.pop.2.2
  rcases h.new k hk (fun x=>by omega) with h1|h1
  · omega
  · exact h1.1
theorem FlP.visit {i p k:Nat} {o:List Int} {st:List Nat} {D:Nat→Prop} (hc:Lst (fun j=>f j=true) adj c) (h:FlP n f adj c i o st p D) (hk:k<n) (hf:f k=true) (ha:adj p k) (ho:o.getD k 0<0):
    FlP n f adj c i (o.set k (cnt (ldr f c) i:Int)) (st++[k]) p (fun x=>D x∨x=k):=by
  have e:c k=i:=by rw [← hc.same p k h.pop.2.1 hf ha];exact h.pop.2.2
  have hl:=h.len
  have hs:(o.set k (cnt (ldr f c) i:Int)).getD k 0=(cnt (ldr f c) i:Int):=Big.getD_set_self (by omega) _
  have hne:∀j,j≠k→(o.set k (cnt (ldr f c) i:Int)).getD j 0=o.getD j 0:=fun j hj=>Big.getD_set_ne hj _
  refine ⟨by rw [List.length_set];exact hl,fun j hj hfj hlt=> ?_,fun j hj hn=> ?_,?_,fun j hj=> ?_,h.pop,fun j hj hfj hcj hoj=> ?_⟩
  · rw [hne j (fun x=>by rw [x,e] at hlt;omega)];exact h.old j hj hfj hlt
  · by_cases x : j = k
    · exact .inr ⟨by rw [x];exact hs,x ▸ hf,x ▸ e⟩
    · rw [hne j x];exact h.new j hj hn
  · by_cases x : i = k
    · rw [x] at hs ⊢;exact hs
    · rw [hne i x];exact h.self
  · by_cases x : j = k
    · exact ⟨x ▸ hk,by rw [x];exact hs,x ▸ hf,x ▸ e⟩
    · rw [hne j x]
      rcases List.mem_append.1 hj with h1|h1
      · exact h.stk j h1
      · exact absurd (by simpa using h1) x
  · by_cases x : j = k
    · exact .inl (by simp [x])
    · rw [hne j x] at hoj
      rcases h.cls j hj hfj hcj hoj with h1|h1
      · exact .inl (by simp [h1])
      · refine .inr fun q a b d hD => ?_
        by_cases y:q=k
        · rw [y];exact hs
        · rw [hne q y];exact h1 q a b d (fun z=>(hD z).resolve_right y)
theorem OutI.start:OutI n f c 0 (List.replicate n (-1)):=⟨by simp,fun j _ _ h=>by omega,fun j hj _=>by simp [List.getD_eq_getElem?_getD,hj]⟩
theorem OutI.none {i:Nat} {o:List Int} (hc:Lst (fun j=>f j=true) adj c) (h:OutI n f c i o) (hi:i<n) (hx:¬o.getD i 0<0∨¬f i=true):OutI n f c (i+1) o∧ldr f c i=false:=by
  have hl:¬(f i=true∧c i=i):=fun k=>by
    rcases hx with h1|h1
    · exact h1 (by rw [h.new i hi (fun x=>by omega)];decide)
    · exact h1 k.1
  refine ⟨⟨h.len,fun j hj hf hlt=>h.old j hj hf ?_,fun j hj hn=>h.new j hj fun x=>hn ⟨x.1,by omega⟩⟩,?_⟩
  · by_cases e : c j = i
    · exact absurd ⟨e ▸ hc.mem hf,by have:=hc.idem hf;rw [e] at this;exact this⟩ hl
    · omega
  · unfold ldr
    by_cases e:f i=true
    · simp only [e,Bool.true_and];exact decide_eq_false fun k=>hl ⟨e,k⟩
    · simp [e]
theorem OutI.lead {i:Nat} {o:List Int} (hc:Lst (fun j=>f j=true) adj c) (h:OutI n f c i o) (hi:i<n) (hx:o.getD i 0<0) (hf:f i=true):Fld n f adj c i (o.set i (cnt (ldr f c) i:Int)) [i]∧ldr f c i=true:=by
  have hle:=hc.le i hf
  have hci:c i=i:=by
    by_cases e:c i<i
    · have:=h.old i hi hf e;omega
    · omega
  have hs:(o.set i (cnt (ldr f c) i:Int)).getD i 0=(cnt (ldr f c) i:Int):=Big.getD_set_self (by rw [h.len];exact hi) _
  have hne:∀j,j≠i→(o.set i (cnt (ldr f c) i:Int)).getD j 0=o.getD j 0:=fun j hj=>Big.getD_set_ne hj _
  refine ⟨⟨by rw [List.length_set];exact h.len,fun j hj hfj hlt=> ?_,fun j hj hn=> ?_,hs,fun j hj=> ?_,fun j hj hfj hcj hoj=> ?_⟩,by simp [ldr,hf,hci]⟩
  · rw [hne j (fun e=>by rw [e,hci] at hlt;omega)];exact h.old j hj hfj hlt
  · by_cases e : j = i
    · exact .inr ⟨by rw [e];exact hs,e ▸ hf,by rw [e];exact hci⟩
    · rw [hne j e];exact .inl (h.new j hj hn)
  · have e : j = i := by simpa using hj
    subst e;exact ⟨hi,hs,hf,hci⟩
  · by_cases e : j = i
    · exact .inl (by simp [e])
    · rw [hne j e,h.new j hj (fun x=>by omega)] at hoj;omega
end
def unv (o:List Int):Nat:=o.countP (fun x=>decide (x<0))
theorem unv_set {o:List Int} {k:Nat} {v:Int} (hk:k<o.length) (ho:o.getD k 0<0) (hv:0≤v):unv (o.set k v)+1=unv o:=by
  unfold unv
  have hg:o[k]<0:=by rw [List.getD_eq_getElem?_getD,List.getElem?_eq_getElem hk] at ho;exact ho
  have hp:0<o.countP (fun x=>decide (x<0)):=List.countP_pos_iff.2 ⟨o[k],List.getElem_mem hk,by simpa using hg⟩
  rw [List.countP_set]
  rw [if_pos (by simpa using hg),if_neg (by simpa using hv)]
  omega
section
variable {n : Nat} {f : Nat → Bool} {adj : Nat → Nat → Prop} {c : Nat → Nat}
end
def nb (e:Bool) (w n j k:Nat):Prop:=
  j<n∧k<n∧j≠k∧(((j%w:Nat):Int) - (k%w:Nat)).natAbs≤1∧(((j / w:Nat):Int) - (k / w:Nat)).natAbs≤1∧(e=true∨(((j%w:Nat):Int) - (k%w:Nat)).natAbs+(((j / w:Nat):Int) - (k / w:Nat)).natAbs≤1)
theorem nb_symm {e:Bool} {w n j k:Nat} (h:nb e w n j k):nb e w n k j:=by
  unfold nb at*
  obtain ⟨h1,h2,h3,h4,h5,h6⟩:=h
  refine ⟨h2,h1,fun x=>h3 x.symm,by omega,by omega,h6.imp id fun h=>by omega⟩
theorem nb_lt {e:Bool} {w n j k:Nat} (h:nb e w n j k):k<n:=h.2.1
theorem pix {w h:Nat} {x y:Int} (hx:0≤x∧x<w) (hy:0≤y∧y<h):0≤y*w+x∧(y*w+x).toNat<w*h∧(y*w+x).toNat%w=x.toNat∧(y*w+x).toNat / w=y.toNat:=by
  obtain ⟨a,ha⟩:∃a:Nat,x=a:=⟨x.toNat,by omega⟩
  obtain ⟨b,hb⟩:∃b:Nat,y=b:=⟨y.toNat,by omega⟩
  subst ha;subst hb
  have e:((b:Int)*w+a).toNat=w*b+a:=by rw [← Int.natCast_mul,Nat.mul_comm];omega
  have hw:0<w:=by omega
  have h1:(w*b+a)%w=a:=by rw [Nat.mul_add_mod];exact Nat.mod_eq_of_lt (by omega)
  have h2:(w*b+a) / w=b:=by rw [Nat.mul_add_div hw,Nat.div_eq_of_lt (by omega)];rfl
  have h3:w*b+a<w*h:=by
    have:w*(b+1)≤w*h:=Nat.mul_le_mul_left w (by omega)
    rw [Nat.mul_add,Nat.mul_one] at this;omega
  have h4:=Int.mul_nonneg (show (0:Int)≤b by omega) (show (0:Int)≤w by omega)
  rw [e]
  exact ⟨by omega,h3,by simpa using h1,by simpa using h2⟩
section
variable {n : Nat} {f : Nat → Bool} {adj : Nat → Nat → Prop}
structure RdI (n:Nat) (f:Nat→Bool) (adj:Nat→Nat→Prop) (o:List Int):Prop where
  len:o.length=n
  lo:∀i,i<n→0≤o.getD i 0∧o.getD i 0≤i
  con:∀i,i<n→f i=true→Conn (fun j=>f j=true) adj i (o.getD i 0).toNat
  out:∀i,i<n→¬f i=true→o.getD i 0=i
theorem RdI.step {o:List Int} {i k:Nat} (h:RdI n f adj o) (hi:i<n) (hk:k<n) (hfi:f i=true) (hfk:f k=true) (ha:adj i k) (hlt:o.getD k 0<o.getD i 0):RdI n f adj (o.set i (o.getD k 0)):=by
  have hs:(o.set i (o.getD k 0)).getD i 0=o.getD k 0:=Big.getD_set_self (by rw [h.len];exact hi) _
  have hne:∀j,j≠i→(o.set i (o.getD k 0)).getD j 0=o.getD j 0:=fun j hj=>Big.getD_set_ne hj _
  refine ⟨by rw [List.length_set];exact h.len,fun j hj=> ?_,fun j hj hf=> ?_,fun j hj hf=>by rw [hne j (fun e=>hf (e ▸ hfi))];exact h.out j hj hf⟩
  · by_cases e : j = i
    · rw [e,hs];have h1:=h.lo k hk;have h2:=h.lo i hi;omega
    · rw [hne j e];exact h.lo j hj
  · by_cases e : j = i
    · rw [e,hs];exact .step hfi hfk ha (h.con k hk hfk)
    · rw [hne j e];exact h.con j hj hf
theorem RdI.fin {o:List Int} (h:RdI n f adj o) (hn:∀i,f i=true→i<n) (hs:∀i j,adj i j→adj j i) (hx:∀i k,f i=true→f k=true→adj i k→¬o.getD k 0<o.getD i 0):Lst (fun j=>f j=true) adj (fun i=>(o.getD i 0).toNat):=
  ⟨fun i hi=>by have:=h.lo i (hn i hi);show (o.getD i 0).toNat≤i;omega,fun i hi=>h.con i (hn i hi) hi,fun i k hi hk ha=>by
    have h1:=hx i k hi hk ha;have h2:=hx k i hk hi (hs _ _ ha)
    show (o.getD i 0).toNat=(o.getD k 0).toNat;omega⟩
end
theorem nb_place {e:Bool} {w h p:Nat} {a b:Int} (hp:p<w*h) (hx:0≤((p%w:Nat):Int)+a∧((p%w:Nat):Int)+a<w) (hy:0≤((p / w:Nat):Int)+b∧((p / w:Nat):Int)+b<h)
    (ha:a.natAbs≤1) (hb:b.natAbs≤1) (h0:¬(a=0∧b=0)) (he:e=true∨a.natAbs+b.natAbs≤1):nb e w (w*h) p ((((p / w:Nat):Int)+b)*w+(((p%w:Nat):Int)+a)).toNat:=by
  obtain ⟨q0,q1,q2,q3⟩:=pix hx hy
  obtain ⟨k,hk⟩:∃k,k=((((p / w:Nat):Int)+b)*w+(((p%w:Nat):Int)+a)).toNat:=⟨_,rfl⟩
  rw [← hk] at q1 q2 q3 ⊢
  obtain ⟨u,hu⟩:∃u,u=p%w:=⟨_,rfl⟩
  obtain ⟨v,hv⟩:∃v,v=p / w:=⟨_,rfl⟩
  obtain ⟨u2,hu2⟩:∃u,u=k%w:=⟨_,rfl⟩
  obtain ⟨v2,hv2⟩:∃v,v=k / w:=⟨_,rfl⟩
  unfold nb
  rw [← hu] at q2 hx ⊢;rw [← hv] at q3 hy ⊢
  rw [← hu2] at q2 ⊢;rw [← hv2] at q3 ⊢
  refine ⟨hp,q1,fun x=> ?_,by omega,by omega,he.imp id fun y=>by omega⟩
  rw [← x,←hu] at hu2;rw [← x,←hv] at hv2
  exact h0 (by omega)
theorem nb_step {e:Bool} {w h p k:Nat} (hw:0<w) (hn:nb e w (w*h) p k):∃a b:Int,a.natAbs≤1∧b.natAbs≤1∧¬(a=0∧b=0)∧(e=true∨a.natAbs+b.natAbs≤1)∧
    (0≤((p%w:Nat):Int)+a∧((p%w:Nat):Int)+a<w)∧(0≤((p / w:Nat):Int)+b∧((p / w:Nat):Int)+b<h)∧k=((((p / w:Nat):Int)+b)*w+(((p%w:Nat):Int)+a)).toNat:=by
  obtain ⟨h1,h2,h3,h4,h5,h6⟩:=hn
  have k1:=Nat.mod_lt k hw
  have k2:k / w<h:=Nat.div_lt_of_lt_mul h2
  have k3:=Nat.div_add_mod k w
  have p3:=Nat.div_add_mod p w
  have e1:((p%w:Nat):Int)+(((k%w:Nat):Int) - (p%w:Nat))=(k%w:Nat):=by
    generalize k%w=u;generalize p%w=v;omega
  have e2:((p / w:Nat):Int)+(((k / w:Nat):Int) - (p / w:Nat))=(k / w:Nat):=by
    generalize k / w=u;generalize p / w=v;omega
  refine ⟨((k%w:Nat):Int) - (p%w:Nat),((k / w:Nat):Int) - (p / w:Nat),?_,?_,?_,?_,?_,?_,?_⟩
  · generalize k%w=u at *;generalize p%w=v at *;omega
  · generalize k / w=u at *;generalize p / w=v at *;omega
  · intro x
    have x1:k%w=p%w:=by generalize k%w=u at *;generalize p%w=v at *;omega
    have x2:k / w=p / w:=by generalize k / w=u at *;generalize p / w=v at *;omega
    rw [x1,x2] at k3;exact h3 (by omega)
  · refine h6.imp id fun y => ?_
    generalize k%w=u at *;generalize p%w=v at *;generalize k / w=u2 at *;generalize p / w=v2 at *;omega
  · rw [e1];generalize k%w=u at *;omega
  · rw [e2];generalize k / w=u at *;omega
  · rw [e1, e2, ← Int.natCast_mul, Nat.mul_comm]
    generalize w*(k / w)=s at *;generalize k%w=u at *;omega
end Go.Proofs.YtefbbhiaalcjfaaGreat.Fl
namespace Go.Proofs.YtefbbhiaalcjfaaGreat.Fl
def tot (o:List Int):Nat:=(o.map Int.toNat).sum
theorem tot_set {o:List Int} {k:Nat} {v:Int} (hk:k<o.length) (h0:0≤v) (hv:v<o.getD k 0):tot (o.set k v)<tot o:=by
  unfold tot
  induction o generalizing k with
  |nil=>simp at hk
  |cons a t ih=>
    cases k with
    |zero=>simp only [List.set_cons_zero,List.map_cons,List.sum_cons];have:v<a:=(by simpa using hv);omega
    |succ k=>
      simp only [List.set_cons_succ,List.map_cons,List.sum_cons]
      have:=ih (k:=k) (by simpa using hk) (by simpa using hv);omega
section
variable {n w : Nat} {f : Nat → Bool} {adj : Nat → Nat → Prop}
def Dn (f:Nat→Bool) (adj:Nat→Nat→Prop) (w:Nat) (o:List Int) (i:Nat) (Y X:Int):Prop:=
  ∀b a:Int,-1≤b→b≤1→ -1≤a→a≤1→(b<Y∨b=Y∧a<X)→∀k:Nat,(k:Int)=i+b*w+a→f i=true→f k=true→adj i k→¬o.getD k 0<o.getD i 0
structure Rnd (n w:Nat) (f:Nat→Bool) (adj:Nat→Nat→Prop) (o0 o:List Int) (g:Bool) (i:Nat) (Y X:Int):Prop where
  rd:RdI n f adj o
  lt:g=true→tot o<tot o0
  eq:g=false→o=o0
  old:g=false→∀j k,j<i→f j=true→f k=true→adj j k→¬o.getD k 0<o.getD j 0
  dn:g=false→Dn f adj w o i Y X
theorem Rnd.start {o:List Int} (h:RdI n f adj o):Rnd n w f adj o o false 0 (-1) (-1):=
  ⟨h,fun e=>(by cases e),fun _=>rfl,fun _ j k hj=>by omega,fun _ b a h1 _ h2 _ h3=>by omega⟩
theorem Rnd.le {o0 o:List Int} {g:Bool} {i:Nat} {Y X:Int} (h:Rnd n w f adj o0 o g i Y X):tot o≤tot o0:=by
  cases g with
  |true=>exact Nat.le_of_lt (h.lt rfl)
  |false=>rw [h.eq rfl];exact Nat.le_refl _
theorem Rnd.skip {o0 o:List Int} {g:Bool} {i:Nat} {Y X:Int} (h:Rnd n w f adj o0 o g i Y X) (hx:∀k:Nat,(k:Int)=i+Y*w+X→f i=true→f k=true→adj i k→¬o.getD k 0<o.getD i 0):Rnd n w f adj o0 o g i Y (X+1):=
  ⟨h.rd,h.lt,h.eq,h.old,fun e b a h1 h2 h3 h4 h5=>by
    by_cases h6:b=Y∧a=X
    · rw [h6.1,h6.2];exact hx
    · exact h.dn e b a h1 h2 h3 h4 (by omega)⟩
theorem Rnd.set {o0 o:List Int} {g:Bool} {i k:Nat} {Y X:Int} (h:Rnd n w f adj o0 o g i Y X) (hi:i<n) (hk:k<n) (hfi:f i=true) (hfk:f k=true) (ha:adj i k) (hlt:o.getD k 0<o.getD i 0) (Y' X':Int):Rnd n w f adj o0 (o.set i (o.getD k 0)) true i Y' X':=
  ⟨h.rd.step hi hk hfi hfk ha hlt,fun _=>Nat.lt_of_lt_of_le (tot_set (by rw [h.rd.len];exact hi) (h.rd.lo k hk).1 hlt) h.le,fun e=>(by cases e),fun e=>(by cases e),fun e=>(by cases e)⟩
theorem Rnd.row {o0 o:List Int} {g:Bool} {i:Nat} {Y X:Int} (h:Rnd n w f adj o0 o g i Y X) (hX:1<X):Rnd n w f adj o0 o g i (Y+1) (-1):=
  ⟨h.rd,h.lt,h.eq,h.old,fun e b a h1 h2 h3 h4 h5=>h.dn e b a h1 h2 h3 h4 (by omega)⟩
theorem Rnd.next {o0 o:List Int} {g:Bool} {i:Nat} {Y X:Int} (h:Rnd n w f adj o0 o g i Y X) (hY:1<Y) (hb:∀k,adj i k→∃a b:Int,-1≤a∧a≤1∧ -1≤b∧b≤1∧(k:Int)=i+b*w+a):Rnd n w f adj o0 o g (i+1) (-1) (-1):=
  ⟨h.rd,h.lt,h.eq,fun e j k hj hfj hfk ha=>by
    by_cases x:j=i
    · subst x
      obtain ⟨a,b,h1,h2,h3,h4,h5⟩:=hb k ha
      exact h.dn e b a h3 h4 h1 h2 (by omega) k h5 hfj hfk ha
    · exact h.old e j k (by omega) hfj hfk ha,fun e b a h1 _ h2 _ h3=>by omega⟩
structure Rds (n:Nat) (f:Nat→Bool) (adj:Nat→Nat→Prop) (o:List Int) (g:Bool):Prop where
  rd:RdI n f adj o
  fin:g=false→∀j k,j<n→f j=true→f k=true→adj j k→¬o.getD k 0<o.getD j 0
theorem Rds.start:Rds n f adj ((List.range n).map (fun i:Nat=>(i:Int))) true:=by
  have e:∀i,i<n→((List.range n).map (fun i:Nat=>(i:Int))).getD i 0=i:=fun i hi=>by simp [List.getD_eq_getElem?_getD,hi]
  exact ⟨⟨by simp,fun i hi=>by rw [e i hi];omega,fun i hi _=>by rw [e i hi];exact .refl _,fun i hi _=>e i hi⟩,fun e=>(by cases e)⟩
end
theorem nb_steps {e:Bool} {w h p k:Nat} (hw:0<w) (hn:nb e w (w*h) p k):∃a b:Int,-1≤a∧a≤1∧ -1≤b∧b≤1∧(k:Int)=p+b*w+a:=by
  obtain ⟨a,b,h1,h2,_,_,h3,h4,h5⟩:=nb_step hw hn
  have q:=(pix h3 h4).1
  refine ⟨a,b,by omega,by omega,by omega,by omega,?_⟩
  have hp:=Nat.div_add_mod p w
  have e1:(p:Int)=((p / w:Nat):Int)*w+((p%w:Nat):Int):=by
    rw [← Int.natCast_mul,Nat.mul_comm];generalize w*(p / w)=s at *;generalize p%w=u at *;omega
  have e2:(k:Int)=((((p / w:Nat):Int)+b)*w+(((p%w:Nat):Int)+a)):=by rw [h5];omega
  rw [e2,Int.add_mul]
  generalize ((p / w:Nat):Int)*w=A at *;generalize ((p%w:Nat):Int)=B at *;generalize b*(w:Int)=C at *;omega
end Go.Proofs.YtefbbhiaalcjfaaGreat.Fl
namespace Go.Proofs.YtefbbhiaalcjfaaGreat.Fl
def iz (j:Nat):Int:=j
def fl (l:List Bool) (j:Nat):Bool:=l.getD j false
def ge (l:List Int) (th:Int) (j:Nat):Bool:=decide (j<l.length)&&decide (th≤l.getD j 0)
def lo (l:List Int) (th:Int) (j:Nat):Bool:=decide (j<l.length)&&decide (l.getD j 0<th)
theorem ge_iff {l:List Int} {th:Int} {j:Nat} (h:j<l.length):ge l th j=true↔th≤l.getD j 0:=by simp [ge,h]
theorem lo_iff {l:List Int} {th:Int} {j:Nat} (h:j<l.length):lo l th j=true↔l.getD j 0<th:=by simp [lo,h]
theorem ge_lt {l:List Int} {th:Int} {j:Nat} (h:ge l th j=true):j<l.length:=by simp [ge] at h;exact h.1
theorem lo_lt {l:List Int} {th:Int} {j:Nat} (h:lo l th j=true):j<l.length:=by simp [lo] at h;exact h.1
section
variable {n w : Nat} {l : List Bool} {e : Bool}
def LK (e:Bool) (w j k:Nat):Prop:=(((j%w:Nat):Int) - (k%w:Nat)).natAbs≤1∧(((j / w:Nat):Int) - (k / w:Nat)).natAbs≤1∧(e=true∨(((j%w:Nat):Int) - (k%w:Nat)).natAbs+(((j / w:Nat):Int) - (k / w:Nat)).natAbs≤1)
instance (e:Bool) (w j k:Nat):Decidable (LK e w j k):=inferInstanceAs (Decidable (_∧_))
def CD (e:Bool) (w n:Nat) (l:List Bool) (o:List Int) (i:Nat) (kk:Int):Prop:=
  0≤kk∧kk<(n:Int)∧l.getD i false=true∧l.getD kk.toNat false=true∧LK e w i kk.toNat∧o.getD kk.toNat 0<o.getD i 0
instance (e:Bool) (w n:Nat) (l:List Bool) (o:List Int) (i:Nat) (kk:Int):Decidable (CD e w n l o i kk):=inferInstanceAs (Decidable (_∧_))
theorem Rnd.yes {o0 o:List Int} {g:Bool} {i:Nat} {Y X kk:Int} (h:Rnd n w (fl l) (nb e w n) o0 o g i Y X) (hi:i<n) (hc:CD e w n l o i kk) (Y' X':Int):Rnd n w (fl l) (nb e w n) o0 (o.set i (o.getD kk.toNat 0)) true i Y' X':=by
  obtain ⟨h1,h2,h3,h4,h5,h6⟩:=hc
  exact h.set hi (by omega) h3 h4 ⟨hi,by omega,fun x=>by rw [← x] at h6;omega,h5⟩ h6 Y' X'
theorem Rnd.no {o0 o:List Int} {g:Bool} {i:Nat} {Y X kk:Int} (h:Rnd n w (fl l) (nb e w n) o0 o g i Y X) (hk:kk=i+Y*w+X) (hc:¬CD e w n l o i kk):Rnd n w (fl l) (nb e w n) o0 o g i Y (X+1):=
  h.skip fun k e1 e2 e3 e4 e5=>hc (by
    have e6:kk.toNat=k:=by rw [hk,←e1];rfl
    refine ⟨by omega,by have:=e4.2.1;omega,e2,by rw [e6];exact e3,by rw [e6];exact e4.2.2.2,by rw [e6];exact e5⟩)
theorem Rnd.on {h:Nat} {o0 o:List Int} {g:Bool} {i:Nat} {Y X:Int} (hw:0<w) (hn:n=w*h) (hr:Rnd n w (fl l) (nb e w n) o0 o g i Y X) (hY:1<Y):Rnd n w (fl l) (nb e w n) o0 o g (i+1) (-1) (-1):=
  hr.next hY fun k hk=>by subst hn;exact nb_steps hw hk
end
def atD (w pp:Nat) (d:Int×Int):Nat:=((((pp / w:Nat):Int)+d.2)*w+(((pp%w:Nat):Int)+d.1)).toNat
def inD (w h pp:Nat) (d:Int×Int):Prop:=0≤((pp%w:Nat):Int)+d.1∧0≤((pp / w:Nat):Int)+d.2∧((pp%w:Nat):Int)+d.1<w∧((pp / w:Nat):Int)+d.2<h
instance (w h pp:Nat) (d:Int×Int):Decidable (inD w h pp d):=inferInstanceAs (Decidable (_∧_))
def CP (w h pp:Nat) (f:Nat→Bool) (o:List Int) (d:Int×Int):Prop:=inD w h pp d∧o.getD (atD w pp d) 0<0∧f (atD w pp d)=true
instance (w h pp:Nat) (f:Nat→Bool) (o:List Int) (d:Int×Int):Decidable (CP w h pp f o d):=inferInstanceAs (Decidable (_∧_))
def Dst (w h pp:Nat) (l:List (Int×Int)) (q:Nat) (k:Nat):Prop:=∃j,j<q∧inD w h pp (l.getD j (0,0))∧k=atD w pp (l.getD j (0,0))
structure Stp (e:Bool) (l:List (Int×Int)):Prop where
  ok:∀d∈l,d.1.natAbs≤1∧d.2.natAbs≤1∧¬(d.1=0∧d.2=0)∧(e=true∨d.1.natAbs+d.2.natAbs≤1)
  all:∀a b:Int,a.natAbs≤1→b.natAbs≤1→¬(a=0∧b=0)→(e=true∨a.natAbs+b.natAbs≤1)→(a,b)∈l
theorem three {a:Int} (h:a.natAbs≤1):a= -1∨a=0∨a=1:=by omega
def st4:List (Int×Int):=[((1:Int),(0:Int)),(-1,0),(0,1),(0,-1)]
def st8:List (Int×Int):=[((1:Int),(0:Int)),(-1,0),(0,1),(0,-1)]++[(1,1),(-1,1),(1,-1),(-1,-1)]
theorem stp4:Stp false st4:=⟨by decide,fun a b h1 h2 h3 h4=>by
  rcases three h1 with e|e|e <;> rcases three h2 with k|k|k <;> subst e <;> subst k <;> first|decide|(exfalso;revert h3 h4;decide)⟩
theorem stp8:Stp true st8:=⟨by decide,fun a b h1 h2 h3 h4=>by
  rcases three h1 with e|e|e <;> rcases three h2 with k|k|k <;> subst e <;> subst k <;> first|decide|(exfalso;revert h3 h4;decide)⟩
theorem gD_mem {l:List (Int×Int)} {q:Nat} (h:q<l.length):l.getD q (0,0)∈l:=by
  rw [List.getD_eq_getElem?_getD,List.getElem?_eq_getElem h];exact List.getElem_mem h
theorem mem_gD {l:List (Int×Int)} {d:Int×Int} (h:d∈l):∃q,q<l.length∧l.getD q (0,0)=d:=by
  obtain ⟨q,hq,e⟩:=List.getElem_of_mem h
  exact ⟨q,hq,by rw [List.getD_eq_getElem?_getD,List.getElem?_eq_getElem hq];exact e⟩
theorem inD.pix {w h pp:Nat} {d:Int×Int} (hi:inD w h pp d):0≤(((pp / w:Nat):Int)+d.2)*w+(((pp%w:Nat):Int)+d.1)∧atD w pp d<w*h:=by
  have:=Fl.pix (w:=w) (h:=h) ⟨hi.1,hi.2.2.1⟩ ⟨hi.2.1,hi.2.2.2⟩;exact ⟨this.1,this.2.1⟩
theorem inD.nb {e:Bool} {w h pp q:Nat} {l:List (Int×Int)} (hs:Stp e l) (hq:q<l.length) (hp:pp<w*h) (hi:inD w h pp (l.getD q (0,0))):nb e w (w*h) pp (atD w pp (l.getD q (0,0))):=by
  obtain ⟨h1,h2,h3,h4⟩:=hs.ok _ (gD_mem hq)
  exact nb_place hp ⟨hi.1,hi.2.2.1⟩ ⟨hi.2.1,hi.2.2.2⟩ h1 h2 h3 h4
theorem at_b {w n pp:Nat} {d:Int×Int} (hw:1≤w∧w≤64) (hp:pp<n) (hn:n≤4096) (h1:d.1.natAbs≤1) (h2:d.2.natAbs≤1):
    (-64≤(((pp / w:Nat):Int)+d.2)*w∧(((pp / w:Nat):Int)+d.2)*w≤4160)∧(-1≤((pp%w:Nat):Int)+d.1∧((pp%w:Nat):Int)+d.1≤64)∧(-1≤((pp / w:Nat):Int)+d.2∧((pp / w:Nat):Int)+d.2≤4097):=by
  have e1:=Nat.div_mul_le_self pp w
  have e2:=Nat.mod_lt pp (show 0<w by omega)
  have e3:=Nat.div_le_self pp w
  have e4:(((pp / w:Nat):Int)+d.2)*w=((pp / w*w:Nat):Int)+d.2*w:=by rw [Int.add_mul,←Int.natCast_mul]
  have e5: -64≤d.2*(w:Int)∧d.2*(w:Int)≤64:=by rcases three h2 with e|e|e <;> rw [e] <;> omega
  rw [e4]
  generalize pp / w*w=A at *;generalize pp%w=B at *;generalize pp / w=C at *;generalize d.2*(w:Int)=E at *;omega
theorem Dst.none {w h pp:Nat} {l:List (Int×Int)} {k:Nat}:¬Dst w h pp l 0 k:=fun ⟨_,h,_⟩=>by omega
theorem Dst.all {e:Bool} {w h pp k:Nat} {l:List (Int×Int)} (hs:Stp e l) (hw:0<w) (hk:Fl.nb e w (w*h) pp k):Dst w h pp l l.length k:=by
  obtain ⟨a,b,h1,h2,h3,h4,h5,h6,h7⟩:=nb_step hw hk
  obtain ⟨q,hq,e1⟩:=mem_gD (hs.all a b h1 h2 h3 h4)
  exact ⟨q,hq,by rw [e1];exact ⟨h5.1,h6.1,h5.2,h6.2⟩,by rw [e1];exact h7⟩
section
variable {n w h i pp q : Nat} {f : Nat → Bool} {e : Bool} {c : Nat → Nat} {o : List Int} {st : List Nat} {l : List (Int × Int)}
theorem FlP.start (hf:Fld n f (nb e w n) c i o (st++[pp])):FlP n f (nb e w n) c i o st pp (Dst w h pp l 0):=
  hf.pop.skip fun _ hk=>absurd hk Dst.none
theorem FlP.end_ (hs:Stp e l) (hw:0<w) (hn:n=w*h) (hf:FlP n f (nb e w n) c i o st pp (Dst w h pp l l.length)):Fld n f (nb e w n) c i o st:=
  hf.done fun k hk=>by subst hn;exact Dst.all hs hw hk
theorem FlP.yes (hs:Stp e l) (hn:n=w*h) (hq:q<l.length) (hc:Lst (fun j=>f j=true) (nb e w n) c) (hf:FlP n f (nb e w n) c i o st pp (Dst w h pp l q)) (hi:inD w h pp (l.getD q (0,0))) (ho:o.getD (atD w pp (l.getD q (0,0))) 0<0) (hfk:f (atD w pp (l.getD q (0,0)))=true):
    FlP n f (nb e w n) c i (o.set (atD w pp (l.getD q (0,0))) (cnt (ldr f c) i:Int)) (st++[atD w pp (l.getD q (0,0))]) pp (Dst w h pp l (q+1))∧2*unv (o.set (atD w pp (l.getD q (0,0))) (cnt (ldr f c) i:Int))+(st++[atD w pp (l.getD q (0,0))]).length+1=2*unv o+st.length:=by
  subst hn
  have hk:=hi.pix.2
  refine ⟨(hf.visit hc hk hfk (hi.nb hs hq hf.pop.1) ho).skip fun k hD=> .inl ?_,?_⟩
  · obtain ⟨j, h1, h2, h3⟩ := hD
    by_cases e:j=q
    · right;rw [h3,e]
    · left;exact ⟨j,by omega,h2,h3⟩
  · have := unv_set (by rw [hf.len]; exact hk) ho (v := (cnt (ldr f c) i : Int)) (by omega)
    rw [List.length_append];simp only [List.length_cons,List.length_nil];omega
theorem FlP.no (hs:Stp e l) (hn:n=w*h) (hq:q<l.length) (hc:Lst (fun j=>f j=true) (nb e w n) c) (hf:FlP n f (nb e w n) c i o st pp (Dst w h pp l q)) (hx:¬(inD w h pp (l.getD q (0,0))∧o.getD (atD w pp (l.getD q (0,0))) 0<0∧f (atD w pp (l.getD q (0,0)))=true)):
    FlP n f (nb e w n) c i o st pp (Dst w h pp l (q+1)):=by
  subst hn
  refine hf.skip fun k hD=> ?_
  obtain ⟨j,h1,h2,h3⟩:=hD
  by_cases e:j=q
  · subst e; subst h3
    refine .inr fun a b d=>hf.seen hc a b d fun x=>hx ⟨h2,x,b⟩
  · exact .inl ⟨j,by omega,h2,h3⟩
end
theorem getD_iz (st:List Nat) (pp:Nat):((st++[pp]).map iz).getD st.length 0=(pp:Int):=by
  rw [List.map_append,List.getD_eq_getElem?_getD,List.getElem?_append_right (by simp)];simp [iz]
theorem snoc {sk:List Nat} (h:sk≠[]):∃st pp,sk=st++[pp]:=⟨_,_,(List.dropLast_concat_getLast h).symm⟩
theorem unv_le (o:List Int):unv o≤o.length:=List.countP_le_length
structure Lab (n:Nat) (f:Nat→Bool) (adj:Nat→Nat→Prop) (o:List Int):Prop where
  len:o.length=n
  ex:∃c,Lst (fun j=>f j=true) adj c∧(∀j,j<n→f j=true→o.getD j 0=(cnt (ldr f c) (c j):Int))∧∀j,j<n→¬f j=true→o.getD j 0= -1
section
variable {n : Nat} {f : Nat → Bool} {adj : Nat → Nat → Prop} {c d : Nat → Nat} {o o2 : List Int}
theorem OutI.lab (hc:Lst (fun j=>f j=true) adj c) (hn:∀j,f j=true→j<n) (h:OutI n f c n o):Lab n f adj o:=
  ⟨h.len,c,hc,fun j hj hf=>h.old j hj hf (hn _ (hc.mem hf)),fun j hj hf=>h.new j hj fun k=>hf k.1⟩
theorem ldr_uniq (hc:Lst (fun j=>f j=true) adj c) (hd:Lst (fun j=>f j=true) adj d):ldr f c=ldr f d:=by
  funext j;unfold ldr
  by_cases h:f j=true
  · rw [hc.uniq hd h]
  · simp [h]
theorem Lab.uniq (h:Lab n f adj o) (k:Lab n f adj o2):o=o2:=by
  obtain ⟨c,hc,h1,h2⟩:=h.ex
  obtain ⟨d,hd,k1,k2⟩:=k.ex
  refine Big.ext_getD (by rw [h.len,k.len]) fun j hj=> ?_
  rw [h.len] at hj
  by_cases e:f j=true
  · rw [h1 j hj e,k1 j hj e,ldr_uniq hc hd,hc.uniq hd e]
  · rw [h2 j hj e,k2 j hj e]
end
end Go.Proofs.YtefbbhiaalcjfaaGreat.Fl
namespace Go.Proofs.YtefbbhiaalcjfaaGreat.Sp
open Go
set_option linter.unusedVariables false
set_option maxRecDepth 100000
set_option maxHeartbeats 1000000
theorem zYd {w:Nat} {h:Nat} {m:Int} {p:Option Addr} {n:Nat} {cap:Nat} {l:List Int} {tb:Nat} {th:Int} {p2:Option Addr} {c2:Nat} (hn:l.length=n) (hw:1≤w∧w≤64) (hh:1≤h∧h≤64) (hwh:n=w*h) (hb:n≤4096):Con Tryz.prog 49 [.agg #[.int .i64 ((w:Nat):Int),.int .i64 ((h:Nat):Int),.int .i64 m,.slice p n cap],.func (.func 55) #[] #[.pointer (some ⟨tb,0,none⟩)],.slice p2 4 c2] [] [slF (rI .i64) p cap l,atF tb 0 [.int .i64 th],slF (rI2 .i64) p2 c2 (Fl.st4)] (Y:=(Option Addr)×Nat×(List Int)×(Nat→Nat)) (fun y=>Fl.Lst (fun j=>(Fl.ge l th) j=true) (Fl.nb false w n) y.2.2.2∧Fl.OutI n (Fl.ge l th) y.2.2.2 n y.2.2.1) (fun y=> .tuple #[.slice (y.1) n (y.2.1),.int .i64 (((Fl.cnt (Fl.ldr (Fl.ge l th) y.2.2.2) n):Nat):Int)]) (fun y=>[]) (fun y=>[slF (rI .i64) (y.1) (y.2.1) (y.2.2.1)]):=by
 refine zr Tryz.func49 rfl rfl rfl (fun c=> ?_)
 show RunC _ _ _ _ _ [(0,.agg #[.int .i64 ((w:Nat):Int),.int .i64 ((h:Nat):Int),.int .i64 m,.slice p n cap]),(1,.func (.func 55) #[] #[.pointer (some ⟨tb,0,none⟩)]),(2,.slice p2 4 c2)] [] [slF (rI .i64) p cap l,atF tb 0 [.int .i64 th],slF (rI2 .i64) p2 c2 (Fl.st4)]
 refine zba 0 rfl (fun hL0=> ?_)
 refine zba 2 rfl (fun hL2=> ?_)
 obtain ⟨cc,hcc⟩:=Fl.Lst.exists (inn:=fun j=>(Fl.ge l th) j=true) (adj:=(Fl.nb false w n)) (fun _ _=>Fl.nb_symm)
 have hin:∀j,(Fl.ge l th) j=true→j<n:=fun j hj=>by have:=Fl.ge_lt hj;omega
 refine zi<|zc<|zJ rfl rfl (zT rfl rfl) (fun b1=> ?_)
 refine r_pv rfl rfl (zd rfl)<|r_pv rfl rfl (zd rfl)<|zj<|zf<|zi<|zc<|r_pv rfl rfl (zh Tryz.underlying24 rfl sz22 rfl rfl)<|r_u rfl rfl (ze 0 ty22 rfl rfl rfl)<|r_pv rfl rfl (zR Tryz.underlying22 rfl)<|zxa rfl rfl (zkb (r:=rI .i64) (k:=n) (x0:=0) (γ0:=()) Tryz.underlying22 inf3 rfl rfl rfl rfl (by omega) (by omega) rfl (fun _ _=>by exact zn.2 (by decide)) (by decide)) (fun b2 _=> ?_)
 refine r_pv rfl rfl (zd rfl)<|zj<|zf<|zi<|zi<|zc<|r_pv rfl rfl (zb rfl)<|r_pv rfl rfl (zR Tryz.underlying22 rfl)<|r_pv rfl rfl (zb rfl)<|zj<|zf<|zM<|zoa (X:=Nat×(List Int)) (fun x:Nat×(List Int)=>x.1≤n∧x.2.length=n∧∀j,j<x.1→x.2.getD j 0= -1) (fun x=>[(26,.int .i64 ((x.1:Nat):Int)),(25,.int .i64 ((n:Nat):Int)),(8,.slice (some ⟨b2,0,none⟩) n n),(7,.int .i64 0),(6,.slice none 0 0),(3,.pointer (some ⟨b1,0,none⟩)),(1,.func (.func 55) #[] #[.pointer (some ⟨tb,0,none⟩)]),(2,.slice p2 4 c2)]) (fun x=>[rowA 3 (rI .i64) (some ⟨b2,0,none⟩) n (x.2),boxA b1 24 [.int .i64 ((w:Nat):Int),.int .i64 ((h:Nat):Int),.int .i64 m,.slice p n cap]]) (fun x=>[slF (rI .i64) p cap l,atF tb 0 [.int .i64 th],slF (rI2 .i64) p2 c2 (Fl.st4)]) (fun x:Nat×(List Int)=>n - x.1) (0,List.replicate n 0) (show 0≤n∧(List.replicate n 0).length=n∧∀j,j<0→(List.replicate n 0).getD j 0= -1 from by exact ⟨Nat.zero_le _,by simp,fun j hj=>by omega⟩) ((.e rfl (by first|rfl|(congr 1;omega)|simp_all) (.of rfl)):SubM _ _) (ho:=((.of [0,0] rfl):PickO _ _ _)) ((.of [0,1,2] rfl):SelR _ _ _) ?_
 rintro ⟨i,A⟩ hI
 replace hI:i≤n∧A.length=n∧∀j,j<i→A.getD j 0= -1:=hI
 try dsimp only
 obtain ⟨hi,hAl,hA⟩:=hI
 refine zi<|zc<|r_pv rfl rfl (zfa rfl rfl)<|zj<|zf<|zi<|zK rfl (fun h3=> ?_) (fun h3=> ?_)
 ·
  refine zD<|zf<|zi<|zM<|zi<|zc<|r_pv rfl rfl (zb rfl)<|r_pv rfl rfl (zd rfl)<|zj<|zf<|zc<|r_pv rfl rfl (zb rfl)<|r_pv rfl rfl (zb rfl)<|r_pv rfl rfl (zW (j:=i) Tryz.underlying22 sz3 rfl rfl rfl (by omega))<|zAa 0 rfl rfl rfl (zU (j:=i) (x0:=(-1)) (γ0:=()) rfl rfl (by first|omega|(rw [List.length_map];omega)|(simp only [List.length_set];omega)|(simp;omega)) rfl rfl sz3 (fun _ _=>by exact zn.2 (by omega))) (fun _=> .z) (fun _ _=> ?_)
  refine zj<|zX<|zf<|zc<|r_pv rfl rfl (zN (z:=(((i+1):Nat):Int)) rfl rfl (w64 (by omega)))<|r_pv rfl rfl (zb rfl)<|zj<|zia ((i+1),(A.set i (-1))) (show (i+1)≤n∧(A.set i (-1)).length=n∧∀j,j<(i+1)→(A.set i (-1)).getD j 0= -1 from by exact ⟨by omega,by rw [List.length_set];exact hAl,fun j hj=>by by_cases e9:j=i;exact e9 ▸ Big.getD_set_self (by omega) _;rw [Big.getD_set_ne e9];exact hA j (by omega)⟩) (by show n - (i+1)<n - i;omega) ((.of rfl):SubM _ _) (ho:=((.of [0,0] rfl):PickO _ _ _)) ((.of [0,1,2] rfl):SelR _ _ _)
 ·
  refine zla<|zp<|zp<|zC<|zf<|zi<|zc<|r_pv rfl rfl (zd rfl)<|zj<|zf<|zi<|zi<|zc<|r_pv rfl rfl (zh Tryz.underlying24 rfl sz22 rfl rfl)<|r_u rfl rfl (ze 1 ty22 rfl rfl rfl)<|r_pv rfl rfl (zR Tryz.underlying22 rfl)<|r_pv rfl rfl (zb rfl)<|zj<|zf<|zM ?_
  have hin9:i=n:=by omega
  refine zoa (X:=Nat×(List Int)) (fun x:Nat×(List Int)=>x.1≤n∧Fl.OutI n (Fl.ge l th) cc x.1 x.2) (fun x=>[(10,.int .i64 (((Fl.cnt (Fl.ldr (Fl.ge l th) cc) x.1):Nat):Int)),(36,.int .i64 ((x.1:Nat):Int)),(35,.int .i64 ((n:Nat):Int)),(34,.slice p n cap),(8,.slice (some ⟨b2,0,none⟩) n n),(7,.int .i64 0),(6,.slice none 0 0),(3,.pointer (some ⟨b1,0,none⟩)),(1,.func (.func 55) #[] #[.pointer (some ⟨tb,0,none⟩)]),(2,.slice p2 4 c2)]) (fun x=>[rowA 3 (rI .i64) (some ⟨b2,0,none⟩) n (x.2),boxA b1 24 [.int .i64 ((w:Nat):Int),.int .i64 ((h:Nat):Int),.int .i64 m,.slice p n cap]]) (fun x=>[slF (rI .i64) p cap l,atF tb 0 [.int .i64 th],slF (rI2 .i64) p2 c2 (Fl.st4)]) (fun x:Nat×(List Int)=>n - x.1) (0,A) (show 0≤n∧Fl.OutI n (Fl.ge l th) cc 0 A from by exact ⟨Nat.zero_le _,⟨hAl,fun j _ _ hj=>by omega,fun j hj _=>hA j (by omega)⟩⟩) ((.e rfl (by first|rfl|(congr 1;omega)|simp_all) (.e rfl (by first|rfl|(congr 1;omega)|simp_all) (.of rfl))):SubM _ _) (ho:=((.of [0,0] rfl):PickO _ _ _)) ((.of [0,1,2] rfl):SelR _ _ _) ?_
  rintro ⟨i,o⟩ hI
  replace hI:i≤n∧Fl.OutI n (Fl.ge l th) cc i o:=hI
  try dsimp only
  obtain ⟨hi,ho⟩:=hI
  have hol:=ho.len
  have hcn:=Fl.cnt_le (Fl.ldr (Fl.ge l th) cc) i
  refine zi<|zc<|r_pv rfl rfl (zfa rfl rfl)<|zj<|zf<|zi<|zK rfl (fun h4=> ?_) (fun h4=> ?_)
  ·
   refine zD<|zf<|zi<|zM<|zi<|zc<|r_pv rfl rfl (zb rfl)<|zS (x0:=(l.getD i 0)) 0 i rfl Tryz.underlying22 sz3 rfl rfl rfl (by first|rfl|assumption|(simp only [List.length_append,List.length_map,List.length_cons,List.length_nil];done)|(simp only [List.length_append,List.length_map,List.length_cons,List.length_nil];omega)|omega) rfl rfl (gD (d:=0) (by omega)) (fun b5 o6 hok7=> ?_)
   replace hok7:=zn.1 hok7
   refine r_u rfl rfl (zo (j:=0) 0 ty3 rfl rfl rfl rfl)<|r_pv rfl rfl (zd rfl)<|r_pv rfl rfl (zd rfl)<|zj<|zf<|zi<|zQa (X:=Unit) (fun x=>True) (fun x=>[(51,.bool (decide (¬o.getD i 0<0∨¬(Fl.ge l th) i=true))),(11,.int .i64 ((i:Nat):Int)),(10,.int .i64 (((Fl.cnt (Fl.ldr (Fl.ge l th) cc) i):Nat):Int)),(36,.int .i64 ((i:Nat):Int)),(35,.int .i64 ((n:Nat):Int)),(34,.slice p n cap),(8,.slice (some ⟨b2,0,none⟩) n n),(7,.int .i64 0),(6,.slice none 0 0),(3,.pointer (some ⟨b1,0,none⟩)),(1,.func (.func 55) #[] #[.pointer (some ⟨tb,0,none⟩)]),(2,.slice p2 4 c2)]) (fun x=>[rowA 3 (rI .i64) (some ⟨b2,0,none⟩) n o,boxA b1 24 [.int .i64 ((w:Nat):Int),.int .i64 ((h:Nat):Int),.int .i64 m,.slice p n cap]]) (fun x=>[atF b5 o6 [.int .i64 (l.getD i 0)],slF (rI .i64) p cap l,atF tb 0 [.int .i64 th],slF (rI2 .i64) p2 c2 (Fl.st4)]) ?_ ?_
   ·
    refine zc<|r_pv rfl rfl (zb rfl)<|r_pv rfl rfl (zb rfl)<|r_pv rfl rfl (zW (j:=i) Tryz.underlying22 sz3 rfl rfl rfl (by omega))<|r_vl rfl rfl (zca 0 i rfl ty3 rfl rfl (gD (d:=0) (by omega)) rfl) (fun _ hok8=> ?_)
    replace hok8:=zn.1 hok8
    refine r_pv rfl rfl (zFa rfl rfl)<|zO rfl rfl (zb rfl) (fun hk1=> ?_) (fun hk1=> ?_)
    ·
     refine za rfl rfl<|za rfl rfl<|za rfl rfl<|za rfl rfl<|r_pv rfl rfl (zk rfl rfl)<|zj ?_
     exact zZ () (show True from by first|trivial|omega|simp_all) ((.e rfl (congrArg Value.bool (by exact Eq.symm (decide_eq_true (.inl (by omega))))) (.of rfl)):SubM _ _) (ho:=((.of [0,0] rfl):PickO _ _ _)) ((.of [0,1,2,3] rfl):SelR _ _ _)
    ·
     refine r_pv rfl rfl (zb rfl)<|r_pv rfl rfl (zb rfl)<|zAc (first:=[]) (cap:=[.pointer (some ⟨tb,0,none⟩)]) rfl rfl rfl (.c rfl .n) ce55 (zrc (g:=(l.getD i 0)) (th:=th) (tb:=tb)) (.c (j:=2) rfl .n) ?_
     rintro ⟨⟩ -
     dsimp only [List.append_eq,List.nil_append,List.cons_append]
     refine r_pv rfl rfl (zEa rfl)<|r_pv rfl rfl (zk rfl rfl)<|zj ?_
     exact zZ () (show True from by first|trivial|omega|simp_all) ((.e rfl (congrArg Value.bool (by exact decide_eq_decide.2 ⟨fun h9=> .inr (fun h8=>h9 ((Fl.ge_iff (by omega)).1 h8)),fun h9 h8=>h9.elim (fun h7=>h7 (by omega)) (fun h7=>h7 ((Fl.ge_iff (by omega)).2 h8))⟩)) (.of rfl)):SubM _ _) (ho:=((.of [0,0] rfl):PickO _ _ _)) ((.of [0,1,2,3] rfl):SelR _ _ _)
   ·
    rintro ⟨⟩ -
    try dsimp only
    refine zK rfl (fun hout=> ?_) (fun hout=> ?_)
    ·
     refine zla<|zp<|zC<|zf<|zc<|r_pv rfl rfl (zN (z:=(((i+1):Nat):Int)) rfl rfl (w64 (by omega)))<|r_pv rfl rfl (zb rfl)<|zj<|zia ((i+1),o) (show (i+1)≤n∧Fl.OutI n (Fl.ge l th) cc (i+1) o from by exact ⟨by omega,(ho.none hcc (by omega) hout).1⟩) (by show n - (i+1)<n - i;omega) ((.e rfl (congrArg (Value.int .i64) (by dsimp only;rw [Fl.cnt_succ,(ho.none hcc (by omega) hout).2];simp)) (.of rfl)):SubM _ _) (ho:=((.of [0,0] rfl):PickO _ _ _)) ((.of [1,2,3] rfl):SelR _ _ _)
    ·
     refine zD<|zf<|zi<|zc<|r_pv rfl rfl (zb rfl)<|r_pv rfl rfl (zb rfl)<|r_pv rfl rfl (zb rfl)<|r_pv rfl rfl (zW (j:=i) Tryz.underlying22 sz3 rfl rfl rfl (by omega))<|zAa 0 rfl rfl rfl (zU (j:=i) (x0:=(((Fl.cnt (Fl.ldr (Fl.ge l th) cc) i):Nat):Int)) (γ0:=()) rfl rfl (by first|omega|(rw [List.length_map];omega)|(simp only [List.length_set];omega)|(simp;omega)) rfl rfl sz3 (fun _ _=>by exact zn.2 (by omega))) (fun _=> .z) (fun _ _=> ?_)
     refine zj<|zf<|zi<|zi<|zc<|r_pv rfl rfl (zb rfl)<|zxa rfl rfl (zP (enc:=fun z:Int=>[.int .i64 z]) (ok:=InK .i64) (h1:=fun _=>rfl) (h2:=fun _=>rfl) (k:=1) Tryz.underlying22 inf3 rfl (by decide) (by decide) (by decide) (.c (x:=((i:Nat):Int)) rfl rfl (fun _ _=>by exact zn.2 (by omega)) .n)) (fun b9 _=> ?_)
     refine r_pv rfl rfl (zd rfl)<|zj<|zf<|zM ?_
     have hfi:(Fl.ge l th) i=true:=by by_cases h9:(Fl.ge l th) i=true;exact h9;exact absurd (.inr h9) hout
     have hoi:o.getD i 0<0:=by by_cases h9:o.getD i 0<0;exact h9;exact absurd (.inl h9) hout
     have hld:=(ho.lead hcc (by omega) hoi hfi).2
     refine zoa (X:=(List Int)×(List Nat)×(Option Addr)×Nat) (fun x:(List Int)×(List Nat)×(Option Addr)×Nat=>Fl.Fld n (Fl.ge l th) (Fl.nb false w n) cc i x.1 x.2.1∧2*Fl.unv x.1+x.2.1.length≤2*n+1) (fun x=>[(13,.slice (x.2.2.1) (x.2.1.length) (x.2.2.2)),(10,.int .i64 (((Fl.cnt (Fl.ldr (Fl.ge l th) cc) i):Nat):Int)),(36,.int .i64 ((i:Nat):Int)),(35,.int .i64 ((n:Nat):Int)),(34,.slice p n cap),(8,.slice (some ⟨b2,0,none⟩) n n),(7,.int .i64 0),(6,.slice none 0 0),(3,.pointer (some ⟨b1,0,none⟩)),(1,.func (.func 55) #[] #[.pointer (some ⟨tb,0,none⟩)]),(2,.slice p2 4 c2)]) (fun x=>[rowA 3 (rI .i64) (x.2.2.1) (x.2.2.2) (x.2.1.map Fl.iz),rowA 3 (rI .i64) (some ⟨b2,0,none⟩) n (x.1),boxA b1 24 [.int .i64 ((w:Nat):Int),.int .i64 ((h:Nat):Int),.int .i64 m,.slice p n cap]]) (fun x=>[atF b5 o6 [.int .i64 (l.getD i 0)],slF (rI .i64) p cap l,atF tb 0 [.int .i64 th],slF (rI2 .i64) p2 c2 (Fl.st4)]) (fun x:(List Int)×(List Nat)×(Option Addr)×Nat=>2*Fl.unv x.1+x.2.1.length) ((o.set i (((Fl.cnt (Fl.ldr (Fl.ge l th) cc) i):Nat):Int)),[i],some ⟨b9,0,none⟩,1) (show Fl.Fld n (Fl.ge l th) (Fl.nb false w n) cc i (o.set i (((Fl.cnt (Fl.ldr (Fl.ge l th) cc) i):Nat):Int)) ([i])∧2*Fl.unv (o.set i (((Fl.cnt (Fl.ldr (Fl.ge l th) cc) i):Nat):Int))+([i]).length≤2*n+1 from by exact ⟨(ho.lead hcc (by omega) hoi hfi).1,by have h9:=Fl.unv_le (o.set i ((Fl.cnt (Fl.ldr (Fl.ge l th) cc) i:Nat):Int));rw [List.length_set] at h9;simp only [List.length_cons,List.length_nil];omega⟩) ((.e rfl (by first|rfl|(congr 1;omega)|simp_all) (.of rfl)):SubM _ _) (ho:=((.e (i:=0) rfl (by first|rfl|(congr 1;omega)|simp_all) (.of [0,0] rfl)):PickO _ _ _)) ((.of [0,1,2,3] rfl):SelR _ _ _) ?_
     rintro ⟨o2,sk,p4,c4⟩ hFF
     replace hFF:Fl.Fld n (Fl.ge l th) (Fl.nb false w n) cc i o2 sk∧2*Fl.unv o2+sk.length≤2*n+1:=hFF
     try dsimp only
     obtain ⟨hF,hFm⟩:=hFF
     have ho2:=hF.len
     refine zi<|zi<|zc<|r_pv rfl rfl (zb rfl)<|r_pv rfl rfl (zR Tryz.underlying22 rfl)<|r_pv rfl rfl (zBa rfl rfl)<|zj<|zf<|zK rfl (fun hso=> ?_) (fun hso=> ?_)
     ·
      obtain ⟨st,pp,rfl⟩:=Fl.snoc (sk:=sk) (fun e9=>by rw [e9] at hso;simp at hso)
      have hsl9:st.length+1≤2*n+1:=by have h8:=hFm;rw [List.length_append] at h8;simp only [List.length_cons,List.length_nil] at h8;omega
      have hsl8:((st++[pp]).map Fl.iz).length=st.length+1:=by simp
      refine zgd 0 rfl (fun hcl=> ?_)
      have e10:(.slice p4 ((st++[pp]).length) c4:Value)= .slice p4 (st.length+1) c4:=by simp
      rw [e10]
      refine zD<|zf<|zM<|zi<|zc<|r_pv rfl rfl (zb rfl)<|r_pv rfl rfl (zb rfl)<|r_pv rfl rfl (zR Tryz.underlying22 rfl)<|r_pv rfl rfl (zha (z:=(((st.length):Nat):Int)) rfl rfl (w64 (by omega)))<|r_u rfl rfl (zma 0 (st.length) rfl Tryz.underlying22 sz3 rfl (by first|rfl|assumption|(simp only [List.length_append,List.length_map,List.length_cons,List.length_nil];done)|(simp only [List.length_append,List.length_map,List.length_cons,List.length_nil];omega)|omega) rfl rfl (by omega))<|r_vl rfl rfl (zca 0 (st.length) rfl ty3 rfl rfl (gD (d:=0) (by omega)) rfl) (fun _ hok11=> ?_)
      replace hok11:=zn.1 hok11
      refine r_pv rfl rfl (zd rfl)<|zj<|zf<|zi ?_
      have e12:((((st++[pp]).map Fl.iz).getD (st.length) 0):Int)=((pp:Nat):Int):=by exact Fl.getD_iz st pp
      rw [e12]
      refine zc<|r_pv rfl rfl (zb rfl)<|r_pv rfl rfl (zb rfl)<|r_pv rfl rfl (zR Tryz.underlying22 rfl)<|r_pv rfl rfl (zha (z:=(((st.length):Nat):Int)) rfl rfl (w64 (by omega)))<|r_pv rfl rfl (zpb (hi:=(st.length)) Tryz.underlying22 sz3 rfl (.s rfl) (.inr ⟨_,rfl⟩) (by omega))<|r_pv rfl rfl (zd rfl)<|zj<|zf<|zi<|c_mem (fun w mm=>mm.rowTake 0 rfl (st.length)) ?_
      dsimp only [List.set]
      have e13:((st++[pp]).map Fl.iz).take (st.length)=st.map Fl.iz:=by simp
      rw [e13]
      refine zc<|r_pv rfl rfl (zb rfl)<|r_pv rfl rfl (zR Tryz.underlying76 rfl)<|r_pv rfl rfl (zb rfl)<|zj<|zf<|zM<|zoa (X:=Nat×(List Int)×(List Nat)×(Option Addr)×Nat) (fun x:Nat×(List Int)×(List Nat)×(Option Addr)×Nat=>x.1≤4∧Fl.FlP n (Fl.ge l th) (Fl.nb false w n) cc i x.2.1 x.2.2.1 pp (Fl.Dst w h pp Fl.st4 x.1)∧2*Fl.unv x.2.1+x.2.2.1.length≤2*Fl.unv o2+st.length) (fun x=>[(13,.slice (x.2.2.2.1) (x.2.2.1.length) (x.2.2.2.2)),(74,.int .i64 ((x.1:Nat):Int)),(73,.int .i64 ((4:Nat):Int)),(72,.slice p2 4 c2),(14,.int .i64 ((pp:Nat):Int)),(10,.int .i64 (((Fl.cnt (Fl.ldr (Fl.ge l th) cc) i):Nat):Int)),(36,.int .i64 ((i:Nat):Int)),(35,.int .i64 ((n:Nat):Int)),(34,.slice p n cap),(8,.slice (some ⟨b2,0,none⟩) n n),(7,.int .i64 0),(6,.slice none 0 0),(3,.pointer (some ⟨b1,0,none⟩)),(1,.func (.func 55) #[] #[.pointer (some ⟨tb,0,none⟩)]),(2,.slice p2 4 c2)]) (fun x=>[rowA 3 (rI .i64) (x.2.2.2.1) (x.2.2.2.2) (x.2.2.1.map Fl.iz),rowA 3 (rI .i64) (some ⟨b2,0,none⟩) n (x.2.1),boxA b1 24 [.int .i64 ((w:Nat):Int),.int .i64 ((h:Nat):Int),.int .i64 m,.slice p n cap]]) (fun x=>[atF b5 o6 [.int .i64 (l.getD i 0)],slF (rI .i64) p cap l,atF tb 0 [.int .i64 th],slF (rI2 .i64) p2 c2 (Fl.st4)]) (fun x:Nat×(List Int)×(List Nat)×(Option Addr)×Nat=>4 - x.1) (0,o2,st,p4,c4) (show 0≤4∧Fl.FlP n (Fl.ge l th) (Fl.nb false w n) cc i o2 st pp (Fl.Dst w h pp Fl.st4 0)∧2*Fl.unv o2+st.length≤2*Fl.unv o2+st.length from by exact ⟨Nat.zero_le _,Fl.FlP.start hF,Nat.le_refl _⟩) ((.c rfl (.e rfl (by first|rfl|(congr 1;omega)|simp_all) (.of rfl))):SubM _ _) (ho:=((.of [0,0,0] rfl):PickO _ _ _)) ((.of [0,1,2,3] rfl):SelR _ _ _) ?_
      rintro ⟨q,o3,s3,p5,c5⟩ hQ
      replace hQ:q≤4∧Fl.FlP n (Fl.ge l th) (Fl.nb false w n) cc i o3 s3 pp (Fl.Dst w h pp Fl.st4 q)∧2*Fl.unv o3+s3.length≤2*Fl.unv o2+st.length:=hQ
      try dsimp only
      obtain ⟨hq,hP1,hP2⟩:=hQ
      have ho3:=hP1.len
      refine zi<|zc<|r_pv rfl rfl (zfa rfl rfl)<|zj<|zf<|zi<|zK rfl (fun h14=> ?_) (fun h14=> ?_)
      ·
       have hst9:Fl.st4.length=4:=rfl
       have hd9:=Fl.stp4.ok _ (Fl.gD_mem (l:=Fl.st4) (q:=q) (by show q<4;omega))
       have hpb:=Fl.at_b hw hP1.pop.1 hb hd9.1 hd9.2.1
       refine zD<|zf<|zi<|zM<|zi<|zc<|zS (x0:=(Fl.st4.getD q (0,0))) 3 q rfl Tryz.underlying76 sz91 rfl rfl rfl (by first|rfl|assumption|(simp only [List.length_append,List.length_map,List.length_cons,List.length_nil];done)|(simp only [List.length_append,List.length_map,List.length_cons,List.length_nil];omega)|omega) rfl rfl (gD (d:=(0,0)) (by omega)) (fun b15 o16 hok17=> ?_)
       obtain ⟨hok17x,hok17y⟩:=hok17
       replace hok17x:=zn.1 hok17x
       replace hok17y:=zn.1 hok17y
       refine r_u rfl rfl (zTa (j:=0) 0 ty91 rfl rfl rfl (.take (.take .nil)))<|zJ rfl rfl (zu zr91 rfl) (fun b18=> ?_)
       refine zl 0 rfl rfl rfl rfl rfl sz91 rfl (.take (.take .nil)) .z<|zj<|zf<|zi<|zaa (OW:=[]) (O:=[boxA b18 91 [.int .i64 ((Fl.st4.getD q (0,0)).1),.int .i64 ((Fl.st4.getD q (0,0)).2)],rowA 3 (rI .i64) p5 c5 (s3.map Fl.iz),rowA 3 (rI .i64) (some ⟨b2,0,none⟩) n o3,boxA b1 24 [.int .i64 ((w:Nat):Int),.int .i64 ((h:Nat):Int),.int .i64 m,.slice p n cap]]) 100000 mixed (.then (.block (.then (.then (.block (.block (.then (.block (.then (.block (.then (.then (.block (.then .ret)))))))))))))) (by kernel_rfl)<|d_pv 0 rfl rfl (by kernel_rfl) (by kernel_rfl) rfl rfl (zb rfl)<|d_pv 1 rfl rfl (by kernel_rfl) (by kernel_rfl) rfl rfl (zh Tryz.underlying24 rfl sz3 rfl rfl)<|d_u 2 rfl rfl (by kernel_rfl) (by kernel_rfl) rfl rfl (ze 3 ty3 rfl rfl rfl)<|d_pv 3 rfl rfl (by kernel_rfl) (by kernel_rfl) rfl rfl (zSa (z:=(((pp%w):Nat):Int)) rfl rfl (by omega) (remN (by omega) (by omega)))<|d_pv 4 rfl rfl (by kernel_rfl) (by kernel_rfl) rfl rfl (zWa (i:=0) Tryz.underlying91 sz3 rfl rfl (by decide) rfl)<|d_u 5 rfl rfl (by kernel_rfl) (by kernel_rfl) rfl rfl (ze 0 ty3 rfl rfl rfl)<|d_pv 6 rfl rfl (by kernel_rfl) (by kernel_rfl) rfl rfl (zN (z:=((((pp%w):Nat):Int)+(Fl.st4.getD q (0,0)).1)) rfl rfl (w64 (by omega)))<|d_pv 7 rfl rfl (by kernel_rfl) (by kernel_rfl) rfl rfl (zb rfl)<|d_pv 8 rfl rfl (by kernel_rfl) (by kernel_rfl) rfl rfl (zh Tryz.underlying24 rfl sz3 rfl rfl)<|d_u 9 rfl rfl (by kernel_rfl) (by kernel_rfl) rfl rfl (ze 3 ty3 rfl rfl rfl)<|d_pv 10 rfl rfl (by kernel_rfl) (by kernel_rfl) rfl rfl (zRa (z:=(((pp / w):Nat):Int)) rfl rfl (by omega) (by rw [quoN (z:=(((pp / w):Nat):Int)) (by omega) (by omega)];exact w64 (by omega)))<|d_pv 11 rfl rfl (by kernel_rfl) (by kernel_rfl) rfl rfl (zWa (i:=1) Tryz.underlying91 sz3 rfl rfl (by decide) rfl)<|d_u 12 rfl rfl (by kernel_rfl) (by kernel_rfl) rfl rfl (ze 0 ty3 rfl rfl rfl)<|d_pv 13 rfl rfl (by kernel_rfl) (by kernel_rfl) rfl rfl (zN (z:=((((pp / w):Nat):Int)+(Fl.st4.getD q (0,0)).2)) rfl rfl (w64 (by omega)))<|d_pv 14 rfl rfl (by kernel_rfl) (by kernel_rfl) rfl rfl (zd rfl)<|d_pv 15 rfl rfl (by kernel_rfl) (by kernel_rfl) rfl rfl (zd rfl)<|zY (by kernel_rfl)<|zf<|zi ?_
       obtain ⟨kx,hkx⟩:∃z,z=((((pp%w):Nat):Int)+(Fl.st4.getD q (0,0)).1):=⟨_,rfl⟩
       rw [← hkx]
       obtain ⟨ky,hky⟩:∃z,z=((((pp / w):Nat):Int)+(Fl.st4.getD q (0,0)).2):=⟨_,rfl⟩
       rw [← hky]
       have hkyw: -64≤ky*((w:Nat):Int)∧ky*((w:Nat):Int)≤4160:=by rw [hky];exact hpb.1
       have hkxb: -1≤kx∧kx≤64:=by rw [hkx];exact hpb.2.1
       refine zc<|r_pv rfl rfl (zb rfl)<|r_pv rfl rfl (zh Tryz.underlying24 rfl sz3 rfl rfl)<|r_u rfl rfl (ze 3 ty3 rfl rfl rfl)<|r_pv rfl rfl (zda (z:=(ky*((w:Nat):Int))) rfl rfl (w64 (by omega)))<|r_pv rfl rfl (zb rfl)<|r_pv rfl rfl (zN (z:=((ky*((w:Nat):Int))+kx)) rfl rfl (w64 (by omega)))<|r_pv rfl rfl (zd rfl)<|zj<|zf ?_
       obtain ⟨kj,hkj⟩:∃z,z=((ky*((w:Nat):Int))+kx):=⟨_,rfl⟩
       rw [← hkj]
       refine zQa (X:=Unit) (fun x=>True) (fun x=>[(131,.bool (decide (Fl.CP w h pp (Fl.ge l th) o3 (Fl.st4.getD q (0,0))))),(19,.int .i64 kj),(13,.slice p5 (s3.length) c5),(74,.int .i64 ((q:Nat):Int)),(73,.int .i64 ((4:Nat):Int)),(72,.slice p2 4 c2),(14,.int .i64 ((pp:Nat):Int)),(10,.int .i64 (((Fl.cnt (Fl.ldr (Fl.ge l th) cc) i):Nat):Int)),(36,.int .i64 ((i:Nat):Int)),(35,.int .i64 ((n:Nat):Int)),(34,.slice p n cap),(8,.slice (some ⟨b2,0,none⟩) n n),(7,.int .i64 0),(6,.slice none 0 0),(3,.pointer (some ⟨b1,0,none⟩)),(1,.func (.func 55) #[] #[.pointer (some ⟨tb,0,none⟩)]),(2,.slice p2 4 c2)]) (fun x=>[boxA b18 91 [.int .i64 ((Fl.st4.getD q (0,0)).1),.int .i64 ((Fl.st4.getD q (0,0)).2)],rowA 3 (rI .i64) p5 c5 (s3.map Fl.iz),rowA 3 (rI .i64) (some ⟨b2,0,none⟩) n o3,boxA b1 24 [.int .i64 ((w:Nat):Int),.int .i64 ((h:Nat):Int),.int .i64 m,.slice p n cap]]) (fun x=>[atF b15 o16 [.int .i64 ((Fl.st4.getD q (0,0)).1),.int .i64 ((Fl.st4.getD q (0,0)).2)],atF b5 o6 [.int .i64 (l.getD i 0)],slF (rI .i64) p cap l,atF tb 0 [.int .i64 th],slF (rI2 .i64) p2 c2 (Fl.st4)]) ?_ ?_
       ·
        refine zc<|r_pv rfl rfl (zb rfl)<|r_pv rfl rfl (zFa rfl rfl)<|zO rfl rfl (zb rfl) (fun hx0=> ?_) (fun hx0=> ?_)
        ·
         refine r_pv rfl rfl (zb rfl)<|r_pv rfl rfl (zFa rfl rfl)<|r_pv rfl rfl (zk rfl rfl)<|zO rfl rfl (zb rfl) (fun hx1=> ?_) (fun hx1=> ?_)
         ·
          refine r_pv rfl rfl (zb rfl)<|r_pv rfl rfl (zh Tryz.underlying24 rfl sz3 rfl rfl)<|r_u rfl rfl (ze 3 ty3 rfl rfl rfl)<|r_pv rfl rfl (zfa rfl rfl)<|r_pv rfl rfl (zk rfl rfl)<|zO rfl rfl (zb rfl) (fun hx2=> ?_) (fun hx2=> ?_)
          ·
           refine r_pv rfl rfl (zb rfl)<|r_pv rfl rfl (zh Tryz.underlying24 rfl sz3 rfl rfl)<|r_u rfl rfl (ze 3 ty3 rfl rfl rfl)<|r_pv rfl rfl (zfa rfl rfl)<|r_pv rfl rfl (zk rfl rfl)<|zO rfl rfl (zb rfl) (fun hx3=> ?_) (fun hx3=> ?_)
           ·
            have hat:kj.toNat=Fl.atD w pp (Fl.st4.getD q (0,0)):=by rw [hkj,hky,hkx];rfl
            have hiD:Fl.inD w h pp (Fl.st4.getD q (0,0)):=⟨hkx ▸ hx0,hky ▸ hx1,hkx ▸ hx2,hky ▸ hx3⟩
            have hpx:=hiD.pix
            have hkj0:0≤kj∧kj.toNat<n:=⟨by rw [hkj,hky,hkx];exact hpx.1,by rw [hat,hwh];exact hpx.2⟩
            refine r_pv rfl rfl (zb rfl)<|r_pv rfl rfl (zb rfl)<|r_pv rfl rfl (zW (j:=(kj).toNat) Tryz.underlying22 sz3 rfl rfl (by omega) (by omega))<|r_vl rfl rfl (zca 2 ((kj).toNat) rfl ty3 rfl rfl (gD (d:=0) (by omega)) rfl) (fun _ hok19=> ?_)
            replace hok19:=zn.1 hok19
            refine r_pv rfl rfl (zfa rfl rfl)<|r_pv rfl rfl (zk rfl rfl)<|zO rfl rfl (zb rfl) (fun hx4=> ?_) (fun hx4=> ?_)
            ·
             refine r_pv rfl rfl (zb rfl)<|r_pv rfl rfl (zh Tryz.underlying24 rfl sz22 rfl rfl)<|r_u rfl rfl (ze 3 ty22 rfl rfl rfl)<|r_pv rfl rfl (zb rfl)<|zS (x0:=(l.getD ((kj).toNat) 0)) 2 ((kj).toNat) rfl Tryz.underlying22 sz3 rfl rfl rfl (by first|rfl|assumption|(simp only [List.length_append,List.length_map,List.length_cons,List.length_nil];done)|(simp only [List.length_append,List.length_map,List.length_cons,List.length_nil];omega)|omega) rfl (by omega) (gD (d:=0) (by omega)) (fun b20 o21 hok22=> ?_)
             replace hok22:=zn.1 hok22
             refine r_u rfl rfl (zo (j:=0) 0 ty3 rfl rfl rfl rfl)<|zAc (first:=[]) (cap:=[.pointer (some ⟨tb,0,none⟩)]) rfl rfl rfl (.c rfl .n) ce55 (zrc (g:=(l.getD ((kj).toNat) 0)) (th:=th) (tb:=tb)) (.c (j:=4) rfl .n) ?_
             rintro ⟨⟩ -
             dsimp only [List.append_eq,List.nil_append,List.cons_append]
             refine r_pv rfl rfl (zk rfl rfl)<|zj ?_
             exact zZ () (show True from by first|trivial|omega|simp_all) ((.e rfl (congrArg Value.bool (by exact decide_eq_decide.2 ⟨fun h9=>⟨hiD,by rw [← hat];exact hx4,by rw [← hat];exact (Fl.ge_iff (by omega)).2 h9⟩,fun h9=>(Fl.ge_iff (by omega)).1 (by rw [hat];exact h9.2.2)⟩)) (.of rfl)):SubM _ _) (ho:=((.of [0,0,0,0] rfl):PickO _ _ _)) ((.of [1,2,3,4,5] rfl):SelR _ _ _)
            ·
             refine za rfl rfl<|za rfl rfl<|za rfl rfl<|za rfl rfl<|za rfl rfl<|za rfl rfl<|za rfl rfl<|r_pv rfl rfl (zk rfl rfl)<|zj ?_
             exact zZ () (show True from by first|trivial|omega|simp_all) ((.e rfl (congrArg Value.bool (by exact Eq.symm (decide_eq_false (fun h9=>hx4 (by rw [hat];exact h9.2.1))))) (.of rfl)):SubM _ _) (ho:=((.of [0,0,0,0] rfl):PickO _ _ _)) ((.of [0,1,2,3,4] rfl):SelR _ _ _)
           ·
            refine za rfl rfl<|za rfl rfl<|za rfl rfl<|za rfl rfl<|za rfl rfl<|r_pv rfl rfl (zk rfl rfl)<|r_pv rfl rfl (zb rfl)<|za rfl rfl<|za rfl rfl<|za rfl rfl<|za rfl rfl<|za rfl rfl<|za rfl rfl<|za rfl rfl<|r_pv rfl rfl (zk rfl rfl)<|zj ?_
            exact zZ () (show True from by first|trivial|omega|simp_all) ((.e rfl (congrArg Value.bool (by exact Eq.symm (decide_eq_false (fun h9=>hx3 (by rw [hky];exact h9.1.2.2.2))))) (.of rfl)):SubM _ _) (ho:=((.of [0,0,0,0] rfl):PickO _ _ _)) ((.of [0,1,2,3,4] rfl):SelR _ _ _)
          ·
           refine za rfl rfl<|za rfl rfl<|za rfl rfl<|za rfl rfl<|r_pv rfl rfl (zk rfl rfl)<|r_pv rfl rfl (zb rfl)<|za rfl rfl<|za rfl rfl<|za rfl rfl<|za rfl rfl<|za rfl rfl<|r_pv rfl rfl (zk rfl rfl)<|r_pv rfl rfl (zb rfl)<|za rfl rfl<|za rfl rfl<|za rfl rfl<|za rfl rfl<|za rfl rfl<|za rfl rfl<|za rfl rfl<|r_pv rfl rfl (zk rfl rfl)<|zj ?_
           exact zZ () (show True from by first|trivial|omega|simp_all) ((.e rfl (congrArg Value.bool (by exact Eq.symm (decide_eq_false (fun h9=>hx2 (by rw [hkx];exact h9.1.2.2.1))))) (.of rfl)):SubM _ _) (ho:=((.of [0,0,0,0] rfl):PickO _ _ _)) ((.of [0,1,2,3,4] rfl):SelR _ _ _)
         ·
          refine za rfl rfl<|za rfl rfl<|za rfl rfl<|za rfl rfl<|r_pv rfl rfl (zk rfl rfl)<|r_pv rfl rfl (zb rfl)<|za rfl rfl<|za rfl rfl<|za rfl rfl<|za rfl rfl<|r_pv rfl rfl (zk rfl rfl)<|r_pv rfl rfl (zb rfl)<|za rfl rfl<|za rfl rfl<|za rfl rfl<|za rfl rfl<|za rfl rfl<|r_pv rfl rfl (zk rfl rfl)<|r_pv rfl rfl (zb rfl)<|za rfl rfl<|za rfl rfl<|za rfl rfl<|za rfl rfl<|za rfl rfl<|za rfl rfl<|za rfl rfl<|r_pv rfl rfl (zk rfl rfl)<|zj ?_
          exact zZ () (show True from by first|trivial|omega|simp_all) ((.e rfl (congrArg Value.bool (by exact Eq.symm (decide_eq_false (fun h9=>hx1 (by rw [hky];exact h9.1.2.1))))) (.of rfl)):SubM _ _) (ho:=((.of [0,0,0,0] rfl):PickO _ _ _)) ((.of [0,1,2,3,4] rfl):SelR _ _ _)
        ·
         refine za rfl rfl<|za rfl rfl<|r_pv rfl rfl (zk rfl rfl)<|r_pv rfl rfl (zb rfl)<|za rfl rfl<|za rfl rfl<|za rfl rfl<|za rfl rfl<|r_pv rfl rfl (zk rfl rfl)<|r_pv rfl rfl (zb rfl)<|za rfl rfl<|za rfl rfl<|za rfl rfl<|za rfl rfl<|r_pv rfl rfl (zk rfl rfl)<|r_pv rfl rfl (zb rfl)<|za rfl rfl<|za rfl rfl<|za rfl rfl<|za rfl rfl<|za rfl rfl<|r_pv rfl rfl (zk rfl rfl)<|r_pv rfl rfl (zb rfl)<|za rfl rfl<|za rfl rfl<|za rfl rfl<|za rfl rfl<|za rfl rfl<|za rfl rfl<|za rfl rfl<|r_pv rfl rfl (zk rfl rfl)<|zj ?_
         exact zZ () (show True from by first|trivial|omega|simp_all) ((.e rfl (congrArg Value.bool (by exact Eq.symm (decide_eq_false (fun h9=>hx0 (by rw [hkx];exact h9.1.1))))) (.of rfl)):SubM _ _) (ho:=((.of [0,0,0,0] rfl):PickO _ _ _)) ((.of [0,1,2,3,4] rfl):SelR _ _ _)
       ·
        rintro ⟨⟩ -
        try dsimp only
        refine zK rfl (fun hc=> ?_) (fun hc=> ?_)
        ·
         have hat:kj.toNat=Fl.atD w pp (Fl.st4.getD q (0,0)):=by rw [hkj,hky,hkx];rfl
         have hpx:=hc.1.pix
         have hkj0:0≤kj∧kj.toNat<n:=⟨by rw [hkj,hky,hkx];exact hpx.1,by rw [hat,hwh];exact hpx.2⟩
         refine zi<|zc<|r_pv rfl rfl (zb rfl)<|r_pv rfl rfl (zb rfl)<|r_pv rfl rfl (zb rfl)<|r_pv rfl rfl (zW (j:=(kj).toNat) Tryz.underlying22 sz3 rfl rfl (by omega) (by omega))<|zAa 2 rfl rfl rfl (zU (j:=(kj).toNat) (x0:=(((Fl.cnt (Fl.ldr (Fl.ge l th) cc) i):Nat):Int)) (γ0:=()) rfl rfl (by first|omega|(rw [List.length_map];omega)|(simp only [List.length_set];omega)|(simp;omega)) rfl rfl sz3 (fun _ _=>by exact zn.2 (by omega))) (fun _=>(.s (.s .z))) (fun _ _=> ?_)
         refine zj<|zf<|zc<|r_pv rfl rfl (zb rfl)<|r_pv rfl rfl (zb rfl)<|zxa rfl rfl (zP (enc:=fun z:Int=>[.int .i64 z]) (ok:=InK .i64) (h1:=fun _=>rfl) (h2:=fun _=>rfl) (k:=1) Tryz.underlying22 inf3 rfl (by decide) (by decide) (by decide) (.c (x:=kj) rfl rfl (fun _ _=>by exact zn.2 (by omega)) .n)) (fun b23 _=> ?_)
         refine zja 0 rfl .z<|zAa 2 rfl rfl rfl (zva 0 rfl Tryz.underlying22 inf3 (by decide) rfl rfl (by first|rfl|assumption|(simp only [List.length_append,List.length_map,List.length_cons,List.length_nil];done)|(simp only [List.length_append,List.length_map,List.length_cons,List.length_nil];omega)|omega) rfl (by first|rfl|assumption|(simp only [List.length_append,List.length_map,List.length_cons,List.length_nil];done)|(simp only [List.length_append,List.length_map,List.length_cons,List.length_nil];omega)|omega) (by omega) (by omega)) (fun _=>(.s (.s .z))) ?_
         rintro ⟨p24,c25⟩ -
         dsimp only [List.append_eq,List.nil_append,List.cons_append]
         refine r_pv rfl rfl (zd rfl)<|zj<|zX<|zf<|zc<|r_pv rfl rfl (zN (z:=(((q+1):Nat):Int)) rfl rfl (w64 (by omega)))<|r_pv rfl rfl (zb rfl)<|zj<|zia ((q+1),(o3.set ((kj).toNat) (((Fl.cnt (Fl.ldr (Fl.ge l th) cc) i):Nat):Int)),(s3++[(kj).toNat]),p24,c25) (show (q+1)≤4∧Fl.FlP n (Fl.ge l th) (Fl.nb false w n) cc i (o3.set ((kj).toNat) (((Fl.cnt (Fl.ldr (Fl.ge l th) cc) i):Nat):Int)) (s3++[(kj).toNat]) pp (Fl.Dst w h pp Fl.st4 (q+1))∧2*Fl.unv (o3.set ((kj).toNat) (((Fl.cnt (Fl.ldr (Fl.ge l th) cc) i):Nat):Int))+(s3++[(kj).toNat]).length≤2*Fl.unv o2+st.length from by have h9:=hP1.yes Fl.stp4 hwh (by show q<4;omega) hcc hc.1 hc.2.1 hc.2.2;rw [← hat] at h9;exact ⟨by omega,h9.1,by omega⟩) (by show 4 - (q+1)<4 - q;omega) ((.e rfl (by simp) (.of rfl)):SubM _ _) (ho:=((.e (i:=2) rfl (by first|rfl|(dsimp only;rw [List.map_append,List.map_cons,List.map_nil,show Fl.iz ((kj).toNat)=kj by unfold Fl.iz;omega])) (.of [2,2] rfl)):PickO _ _ _)) ((.of [2,3,4,5] rfl):SelR _ _ _)
        ·
         refine zD<|zX<|zf<|zc<|r_pv rfl rfl (zN (z:=(((q+1):Nat):Int)) rfl rfl (w64 (by omega)))<|r_pv rfl rfl (zb rfl)<|zj<|zia ((q+1),o3,s3,p5,c5) (show (q+1)≤4∧Fl.FlP n (Fl.ge l th) (Fl.nb false w n) cc i o3 s3 pp (Fl.Dst w h pp Fl.st4 (q+1))∧2*Fl.unv o3+s3.length≤2*Fl.unv o2+st.length from by exact ⟨by omega,hP1.no Fl.stp4 hwh (by show q<4;omega) hcc hc,hP2⟩) (by show 4 - (q+1)<4 - q;omega) ((.of rfl):SubM _ _) (ho:=((.of [1,1,1] rfl):PickO _ _ _)) ((.of [1,2,3,4] rfl):SelR _ _ _)
      ·
       refine zla<|zp<|zp<|zC<|zX<|zia (o3,s3,p5,c5) (show Fl.Fld n (Fl.ge l th) (Fl.nb false w n) cc i o3 s3∧2*Fl.unv o3+s3.length≤2*n+1 from by refine ⟨?_,?_⟩;(have h9:q=4:=(by omega));subst h9;exact hP1.end_ Fl.stp4 (by omega) hwh;have h8:=hFm;rw [List.length_append] at h8;simp only [List.length_cons,List.length_nil] at h8;omega) (by have h9:=hP2;rw [List.length_append];simp only [List.length_cons,List.length_nil];omega) ((.of rfl):SubM _ _) (ho:=((.of [0,0,0] rfl):PickO _ _ _)) ((.of [0,1,2,3] rfl):SelR _ _ _)
     ·
      refine zla<|zp<|zp<|zC<|zf<|zc<|r_pv rfl rfl (zb rfl)<|r_pv rfl rfl (zN (z:=((((Fl.cnt (Fl.ldr (Fl.ge l th) cc) i)+1):Nat):Int)) rfl rfl (w64 (by omega)))<|r_pv rfl rfl (zd rfl)<|zj<|zX<|zf<|zc<|r_pv rfl rfl (zN (z:=(((i+1):Nat):Int)) rfl rfl (w64 (by omega)))<|r_pv rfl rfl (zb rfl)<|zj<|zia ((i+1),o2) (show (i+1)≤n∧Fl.OutI n (Fl.ge l th) cc (i+1) o2 from by exact ⟨by omega,(by have h9:sk=[]:=(by cases sk with|nil=>rfl|cons a t=>simp at hso);subst h9;exact hF.fin hcc (fun _ _=>Fl.nb_symm) (fun _ _ h8=>Fl.nb_lt h8) (by omega) hfi)⟩) (by show n - (i+1)<n - i;omega) ((.e rfl (congrArg (Value.int .i64) (by dsimp only;rw [Fl.cnt_succ,hld];simp)) (.of rfl)):SubM _ _) (ho:=((.of [1,1] rfl):PickO _ _ _)) ((.of [1,2,3] rfl):SelR _ _ _)
  ·
   refine zla<|zp<|zp<|zC<|zf<|zi<|zc<|r_pv rfl rfl (zb rfl)<|r_pv rfl rfl (zb rfl)<|r_pv rfl rfl (zd rfl)<|r_pv rfl rfl (zd rfl)<|zj<|zf<|zI ?_
   have hin8:i=n:=by omega
   rw [hin8] at ho
   refine zcb 0 rfl .z ?_
   exact zpa Tryz.results49 (some ⟨b2,0,none⟩,n,o,cc) (⟨hcc,ho⟩) (zt rfl) (zt rfl) (by rw [hin8]) (ho:=(.n:PickO _ _ _)) ((.c (j:=0) rfl .n):SelR _ _ _)
theorem zKd {w:Nat} {h:Nat} {m:Int} {p:Option Addr} {n:Nat} {cap:Nat} {l:List Int} {tb:Nat} {th:Int} {p2:Option Addr} {c2:Nat} (hn:l.length=n) (hw:1≤w∧w≤64) (hh:1≤h∧h≤64) (hwh:n=w*h) (hb:n≤4096):Con Tryz.prog 49 [.agg #[.int .i64 ((w:Nat):Int),.int .i64 ((h:Nat):Int),.int .i64 m,.slice p n cap],.func (.func 50) #[] #[.pointer (some ⟨tb,0,none⟩)],.slice p2 8 c2] [] [slF (rI .i64) p cap l,atF tb 0 [.int .i64 th],slF (rI2 .i64) p2 c2 (Fl.st8)] (Y:=(Option Addr)×Nat×(List Int)×(Nat→Nat)) (fun y=>Fl.Lst (fun j=>(Fl.lo l th) j=true) (Fl.nb true w n) y.2.2.2∧Fl.OutI n (Fl.lo l th) y.2.2.2 n y.2.2.1) (fun y=> .tuple #[.slice (y.1) n (y.2.1),.int .i64 (((Fl.cnt (Fl.ldr (Fl.lo l th) y.2.2.2) n):Nat):Int)]) (fun y=>[]) (fun y=>[slF (rI .i64) (y.1) (y.2.1) (y.2.2.1)]):=by
 refine zr Tryz.func49 rfl rfl rfl (fun c=> ?_)
 show RunC _ _ _ _ _ [(0,.agg #[.int .i64 ((w:Nat):Int),.int .i64 ((h:Nat):Int),.int .i64 m,.slice p n cap]),(1,.func (.func 50) #[] #[.pointer (some ⟨tb,0,none⟩)]),(2,.slice p2 8 c2)] [] [slF (rI .i64) p cap l,atF tb 0 [.int .i64 th],slF (rI2 .i64) p2 c2 (Fl.st8)]
 refine zba 0 rfl (fun hL0=> ?_)
 refine zba 2 rfl (fun hL2=> ?_)
 obtain ⟨cc,hcc⟩:=Fl.Lst.exists (inn:=fun j=>(Fl.lo l th) j=true) (adj:=(Fl.nb true w n)) (fun _ _=>Fl.nb_symm)
 have hin:∀j,(Fl.lo l th) j=true→j<n:=fun j hj=>by have:=Fl.lo_lt hj;omega
 refine zi<|zc<|zJ rfl rfl (zT rfl rfl) (fun b1=> ?_)
 refine r_pv rfl rfl (zd rfl)<|r_pv rfl rfl (zd rfl)<|zj<|zf<|zi<|zc<|r_pv rfl rfl (zh Tryz.underlying24 rfl sz22 rfl rfl)<|r_u rfl rfl (ze 0 ty22 rfl rfl rfl)<|r_pv rfl rfl (zR Tryz.underlying22 rfl)<|zxa rfl rfl (zkb (r:=rI .i64) (k:=n) (x0:=0) (γ0:=()) Tryz.underlying22 inf3 rfl rfl rfl rfl (by omega) (by omega) rfl (fun _ _=>by exact zn.2 (by decide)) (by decide)) (fun b2 _=> ?_)
 refine r_pv rfl rfl (zd rfl)<|zj<|zf<|zi<|zi<|zc<|r_pv rfl rfl (zb rfl)<|r_pv rfl rfl (zR Tryz.underlying22 rfl)<|r_pv rfl rfl (zb rfl)<|zj<|zf<|zM<|zoa (X:=Nat×(List Int)) (fun x:Nat×(List Int)=>x.1≤n∧x.2.length=n∧∀j,j<x.1→x.2.getD j 0= -1) (fun x=>[(26,.int .i64 ((x.1:Nat):Int)),(25,.int .i64 ((n:Nat):Int)),(8,.slice (some ⟨b2,0,none⟩) n n),(7,.int .i64 0),(6,.slice none 0 0),(3,.pointer (some ⟨b1,0,none⟩)),(1,.func (.func 50) #[] #[.pointer (some ⟨tb,0,none⟩)]),(2,.slice p2 8 c2)]) (fun x=>[rowA 3 (rI .i64) (some ⟨b2,0,none⟩) n (x.2),boxA b1 24 [.int .i64 ((w:Nat):Int),.int .i64 ((h:Nat):Int),.int .i64 m,.slice p n cap]]) (fun x=>[slF (rI .i64) p cap l,atF tb 0 [.int .i64 th],slF (rI2 .i64) p2 c2 (Fl.st8)]) (fun x:Nat×(List Int)=>n - x.1) (0,List.replicate n 0) (show 0≤n∧(List.replicate n 0).length=n∧∀j,j<0→(List.replicate n 0).getD j 0= -1 from by exact ⟨Nat.zero_le _,by simp,fun j hj=>by omega⟩) ((.e rfl (by first|rfl|(congr 1;omega)|simp_all) (.of rfl)):SubM _ _) (ho:=((.of [0,0] rfl):PickO _ _ _)) ((.of [0,1,2] rfl):SelR _ _ _) ?_
 rintro ⟨i,A⟩ hI
 replace hI:i≤n∧A.length=n∧∀j,j<i→A.getD j 0= -1:=hI
 try dsimp only
 obtain ⟨hi,hAl,hA⟩:=hI
 refine zi<|zc<|r_pv rfl rfl (zfa rfl rfl)<|zj<|zf<|zi<|zK rfl (fun h3=> ?_) (fun h3=> ?_)
 ·
  refine zD<|zf<|zi<|zM<|zi<|zc<|r_pv rfl rfl (zb rfl)<|r_pv rfl rfl (zd rfl)<|zj<|zf<|zc<|r_pv rfl rfl (zb rfl)<|r_pv rfl rfl (zb rfl)<|r_pv rfl rfl (zW (j:=i) Tryz.underlying22 sz3 rfl rfl rfl (by omega))<|zAa 0 rfl rfl rfl (zU (j:=i) (x0:=(-1)) (γ0:=()) rfl rfl (by first|omega|(rw [List.length_map];omega)|(simp only [List.length_set];omega)|(simp;omega)) rfl rfl sz3 (fun _ _=>by exact zn.2 (by omega))) (fun _=> .z) (fun _ _=> ?_)
  refine zj<|zX<|zf<|zc<|r_pv rfl rfl (zN (z:=(((i+1):Nat):Int)) rfl rfl (w64 (by omega)))<|r_pv rfl rfl (zb rfl)<|zj<|zia ((i+1),(A.set i (-1))) (show (i+1)≤n∧(A.set i (-1)).length=n∧∀j,j<(i+1)→(A.set i (-1)).getD j 0= -1 from by exact ⟨by omega,by rw [List.length_set];exact hAl,fun j hj=>by by_cases e9:j=i;exact e9 ▸ Big.getD_set_self (by omega) _;rw [Big.getD_set_ne e9];exact hA j (by omega)⟩) (by show n - (i+1)<n - i;omega) ((.of rfl):SubM _ _) (ho:=((.of [0,0] rfl):PickO _ _ _)) ((.of [0,1,2] rfl):SelR _ _ _)
 ·
  refine zla<|zp<|zp<|zC<|zf<|zi<|zc<|r_pv rfl rfl (zd rfl)<|zj<|zf<|zi<|zi<|zc<|r_pv rfl rfl (zh Tryz.underlying24 rfl sz22 rfl rfl)<|r_u rfl rfl (ze 1 ty22 rfl rfl rfl)<|r_pv rfl rfl (zR Tryz.underlying22 rfl)<|r_pv rfl rfl (zb rfl)<|zj<|zf<|zM ?_
  have hin9:i=n:=by omega
  refine zoa (X:=Nat×(List Int)) (fun x:Nat×(List Int)=>x.1≤n∧Fl.OutI n (Fl.lo l th) cc x.1 x.2) (fun x=>[(10,.int .i64 (((Fl.cnt (Fl.ldr (Fl.lo l th) cc) x.1):Nat):Int)),(36,.int .i64 ((x.1:Nat):Int)),(35,.int .i64 ((n:Nat):Int)),(34,.slice p n cap),(8,.slice (some ⟨b2,0,none⟩) n n),(7,.int .i64 0),(6,.slice none 0 0),(3,.pointer (some ⟨b1,0,none⟩)),(1,.func (.func 50) #[] #[.pointer (some ⟨tb,0,none⟩)]),(2,.slice p2 8 c2)]) (fun x=>[rowA 3 (rI .i64) (some ⟨b2,0,none⟩) n (x.2),boxA b1 24 [.int .i64 ((w:Nat):Int),.int .i64 ((h:Nat):Int),.int .i64 m,.slice p n cap]]) (fun x=>[slF (rI .i64) p cap l,atF tb 0 [.int .i64 th],slF (rI2 .i64) p2 c2 (Fl.st8)]) (fun x:Nat×(List Int)=>n - x.1) (0,A) (show 0≤n∧Fl.OutI n (Fl.lo l th) cc 0 A from by exact ⟨Nat.zero_le _,⟨hAl,fun j _ _ hj=>by omega,fun j hj _=>hA j (by omega)⟩⟩) ((.e rfl (by first|rfl|(congr 1;omega)|simp_all) (.e rfl (by first|rfl|(congr 1;omega)|simp_all) (.of rfl))):SubM _ _) (ho:=((.of [0,0] rfl):PickO _ _ _)) ((.of [0,1,2] rfl):SelR _ _ _) ?_
  rintro ⟨i,o⟩ hI
  replace hI:i≤n∧Fl.OutI n (Fl.lo l th) cc i o:=hI
  try dsimp only
  obtain ⟨hi,ho⟩:=hI
  have hol:=ho.len
  have hcn:=Fl.cnt_le (Fl.ldr (Fl.lo l th) cc) i
  refine zi<|zc<|r_pv rfl rfl (zfa rfl rfl)<|zj<|zf<|zi<|zK rfl (fun h4=> ?_) (fun h4=> ?_)
  ·
   refine zD<|zf<|zi<|zM<|zi<|zc<|r_pv rfl rfl (zb rfl)<|zS (x0:=(l.getD i 0)) 0 i rfl Tryz.underlying22 sz3 rfl rfl rfl (by first|rfl|assumption|(simp only [List.length_append,List.length_map,List.length_cons,List.length_nil];done)|(simp only [List.length_append,List.length_map,List.length_cons,List.length_nil];omega)|omega) rfl rfl (gD (d:=0) (by omega)) (fun b5 o6 hok7=> ?_)
   replace hok7:=zn.1 hok7
   refine r_u rfl rfl (zo (j:=0) 0 ty3 rfl rfl rfl rfl)<|r_pv rfl rfl (zd rfl)<|r_pv rfl rfl (zd rfl)<|zj<|zf<|zi<|zQa (X:=Unit) (fun x=>True) (fun x=>[(51,.bool (decide (¬o.getD i 0<0∨¬(Fl.lo l th) i=true))),(11,.int .i64 ((i:Nat):Int)),(10,.int .i64 (((Fl.cnt (Fl.ldr (Fl.lo l th) cc) i):Nat):Int)),(36,.int .i64 ((i:Nat):Int)),(35,.int .i64 ((n:Nat):Int)),(34,.slice p n cap),(8,.slice (some ⟨b2,0,none⟩) n n),(7,.int .i64 0),(6,.slice none 0 0),(3,.pointer (some ⟨b1,0,none⟩)),(1,.func (.func 50) #[] #[.pointer (some ⟨tb,0,none⟩)]),(2,.slice p2 8 c2)]) (fun x=>[rowA 3 (rI .i64) (some ⟨b2,0,none⟩) n o,boxA b1 24 [.int .i64 ((w:Nat):Int),.int .i64 ((h:Nat):Int),.int .i64 m,.slice p n cap]]) (fun x=>[atF b5 o6 [.int .i64 (l.getD i 0)],slF (rI .i64) p cap l,atF tb 0 [.int .i64 th],slF (rI2 .i64) p2 c2 (Fl.st8)]) ?_ ?_
   ·
    refine zc<|r_pv rfl rfl (zb rfl)<|r_pv rfl rfl (zb rfl)<|r_pv rfl rfl (zW (j:=i) Tryz.underlying22 sz3 rfl rfl rfl (by omega))<|r_vl rfl rfl (zca 0 i rfl ty3 rfl rfl (gD (d:=0) (by omega)) rfl) (fun _ hok8=> ?_)
    replace hok8:=zn.1 hok8
    refine r_pv rfl rfl (zFa rfl rfl)<|zO rfl rfl (zb rfl) (fun hk1=> ?_) (fun hk1=> ?_)
    ·
     refine za rfl rfl<|za rfl rfl<|za rfl rfl<|za rfl rfl<|r_pv rfl rfl (zk rfl rfl)<|zj ?_
     exact zZ () (show True from by first|trivial|omega|simp_all) ((.e rfl (congrArg Value.bool (by exact Eq.symm (decide_eq_true (.inl (by omega))))) (.of rfl)):SubM _ _) (ho:=((.of [0,0] rfl):PickO _ _ _)) ((.of [0,1,2,3] rfl):SelR _ _ _)
    ·
     refine r_pv rfl rfl (zb rfl)<|r_pv rfl rfl (zb rfl)<|zAc (first:=[]) (cap:=[.pointer (some ⟨tb,0,none⟩)]) rfl rfl rfl (.c rfl .n) ce50 (zcd (g:=(l.getD i 0)) (th:=th) (tb:=tb)) (.c (j:=2) rfl .n) ?_
     rintro ⟨⟩ -
     dsimp only [List.append_eq,List.nil_append,List.cons_append]
     refine r_pv rfl rfl (zEa rfl)<|r_pv rfl rfl (zk rfl rfl)<|zj ?_
     exact zZ () (show True from by first|trivial|omega|simp_all) ((.e rfl (congrArg Value.bool (by exact decide_eq_decide.2 ⟨fun h9=> .inr (fun h8=>h9 ((Fl.lo_iff (by omega)).1 h8)),fun h9 h8=>h9.elim (fun h7=>h7 (by omega)) (fun h7=>h7 ((Fl.lo_iff (by omega)).2 h8))⟩)) (.of rfl)):SubM _ _) (ho:=((.of [0,0] rfl):PickO _ _ _)) ((.of [0,1,2,3] rfl):SelR _ _ _)
   ·
    rintro ⟨⟩ -
    try dsimp only
    refine zK rfl (fun hout=> ?_) (fun hout=> ?_)
    ·
     refine zla<|zp<|zC<|zf<|zc<|r_pv rfl rfl (zN (z:=(((i+1):Nat):Int)) rfl rfl (w64 (by omega)))<|r_pv rfl rfl (zb rfl)<|zj<|zia ((i+1),o) (show (i+1)≤n∧Fl.OutI n (Fl.lo l th) cc (i+1) o from by exact ⟨by omega,(ho.none hcc (by omega) hout).1⟩) (by show n - (i+1)<n - i;omega) ((.e rfl (congrArg (Value.int .i64) (by dsimp only;rw [Fl.cnt_succ,(ho.none hcc (by omega) hout).2];simp)) (.of rfl)):SubM _ _) (ho:=((.of [0,0] rfl):PickO _ _ _)) ((.of [1,2,3] rfl):SelR _ _ _)
    ·
     refine zD<|zf<|zi<|zc<|r_pv rfl rfl (zb rfl)<|r_pv rfl rfl (zb rfl)<|r_pv rfl rfl (zb rfl)<|r_pv rfl rfl (zW (j:=i) Tryz.underlying22 sz3 rfl rfl rfl (by omega))<|zAa 0 rfl rfl rfl (zU (j:=i) (x0:=(((Fl.cnt (Fl.ldr (Fl.lo l th) cc) i):Nat):Int)) (γ0:=()) rfl rfl (by first|omega|(rw [List.length_map];omega)|(simp only [List.length_set];omega)|(simp;omega)) rfl rfl sz3 (fun _ _=>by exact zn.2 (by omega))) (fun _=> .z) (fun _ _=> ?_)
     refine zj<|zf<|zi<|zi<|zc<|r_pv rfl rfl (zb rfl)<|zxa rfl rfl (zP (enc:=fun z:Int=>[.int .i64 z]) (ok:=InK .i64) (h1:=fun _=>rfl) (h2:=fun _=>rfl) (k:=1) Tryz.underlying22 inf3 rfl (by decide) (by decide) (by decide) (.c (x:=((i:Nat):Int)) rfl rfl (fun _ _=>by exact zn.2 (by omega)) .n)) (fun b9 _=> ?_)
     refine r_pv rfl rfl (zd rfl)<|zj<|zf<|zM ?_
     have hfi:(Fl.lo l th) i=true:=by by_cases h9:(Fl.lo l th) i=true;exact h9;exact absurd (.inr h9) hout
     have hoi:o.getD i 0<0:=by by_cases h9:o.getD i 0<0;exact h9;exact absurd (.inl h9) hout
     have hld:=(ho.lead hcc (by omega) hoi hfi).2
     refine zoa (X:=(List Int)×(List Nat)×(Option Addr)×Nat) (fun x:(List Int)×(List Nat)×(Option Addr)×Nat=>Fl.Fld n (Fl.lo l th) (Fl.nb true w n) cc i x.1 x.2.1∧2*Fl.unv x.1+x.2.1.length≤2*n+1) (fun x=>[(13,.slice (x.2.2.1) (x.2.1.length) (x.2.2.2)),(10,.int .i64 (((Fl.cnt (Fl.ldr (Fl.lo l th) cc) i):Nat):Int)),(36,.int .i64 ((i:Nat):Int)),(35,.int .i64 ((n:Nat):Int)),(34,.slice p n cap),(8,.slice (some ⟨b2,0,none⟩) n n),(7,.int .i64 0),(6,.slice none 0 0),(3,.pointer (some ⟨b1,0,none⟩)),(1,.func (.func 50) #[] #[.pointer (some ⟨tb,0,none⟩)]),(2,.slice p2 8 c2)]) (fun x=>[rowA 3 (rI .i64) (x.2.2.1) (x.2.2.2) (x.2.1.map Fl.iz),rowA 3 (rI .i64) (some ⟨b2,0,none⟩) n (x.1),boxA b1 24 [.int .i64 ((w:Nat):Int),.int .i64 ((h:Nat):Int),.int .i64 m,.slice p n cap]]) (fun x=>[atF b5 o6 [.int .i64 (l.getD i 0)],slF (rI .i64) p cap l,atF tb 0 [.int .i64 th],slF (rI2 .i64) p2 c2 (Fl.st8)]) (fun x:(List Int)×(List Nat)×(Option Addr)×Nat=>2*Fl.unv x.1+x.2.1.length) ((o.set i (((Fl.cnt (Fl.ldr (Fl.lo l th) cc) i):Nat):Int)),[i],some ⟨b9,0,none⟩,1) (show Fl.Fld n (Fl.lo l th) (Fl.nb true w n) cc i (o.set i (((Fl.cnt (Fl.ldr (Fl.lo l th) cc) i):Nat):Int)) ([i])∧2*Fl.unv (o.set i (((Fl.cnt (Fl.ldr (Fl.lo l th) cc) i):Nat):Int))+([i]).length≤2*n+1 from by exact ⟨(ho.lead hcc (by omega) hoi hfi).1,by have h9:=Fl.unv_le (o.set i ((Fl.cnt (Fl.ldr (Fl.lo l th) cc) i:Nat):Int));rw [List.length_set] at h9;simp only [List.length_cons,List.length_nil];omega⟩) ((.e rfl (by first|rfl|(congr 1;omega)|simp_all) (.of rfl)):SubM _ _) (ho:=((.e (i:=0) rfl (by first|rfl|(congr 1;omega)|simp_all) (.of [0,0] rfl)):PickO _ _ _)) ((.of [0,1,2,3] rfl):SelR _ _ _) ?_
     rintro ⟨o2,sk,p4,c4⟩ hFF
     replace hFF:Fl.Fld n (Fl.lo l th) (Fl.nb true w n) cc i o2 sk∧2*Fl.unv o2+sk.length≤2*n+1:=hFF
     try dsimp only
     obtain ⟨hF,hFm⟩:=hFF
     have ho2:=hF.len
     refine zi<|zi<|zc<|r_pv rfl rfl (zb rfl)<|r_pv rfl rfl (zR Tryz.underlying22 rfl)<|r_pv rfl rfl (zBa rfl rfl)<|zj<|zf<|zK rfl (fun hso=> ?_) (fun hso=> ?_)
     ·
      obtain ⟨st,pp,rfl⟩:=Fl.snoc (sk:=sk) (fun e9=>by rw [e9] at hso;simp at hso)
      have hsl9:st.length+1≤2*n+1:=by have h8:=hFm;rw [List.length_append] at h8;simp only [List.length_cons,List.length_nil] at h8;omega
      have hsl8:((st++[pp]).map Fl.iz).length=st.length+1:=by simp
      refine zgd 0 rfl (fun hcl=> ?_)
      have e10:(.slice p4 ((st++[pp]).length) c4:Value)= .slice p4 (st.length+1) c4:=by simp
      rw [e10]
      refine zD<|zf<|zM<|zi<|zc<|r_pv rfl rfl (zb rfl)<|r_pv rfl rfl (zb rfl)<|r_pv rfl rfl (zR Tryz.underlying22 rfl)<|r_pv rfl rfl (zha (z:=(((st.length):Nat):Int)) rfl rfl (w64 (by omega)))<|r_u rfl rfl (zma 0 (st.length) rfl Tryz.underlying22 sz3 rfl (by first|rfl|assumption|(simp only [List.length_append,List.length_map,List.length_cons,List.length_nil];done)|(simp only [List.length_append,List.length_map,List.length_cons,List.length_nil];omega)|omega) rfl rfl (by omega))<|r_vl rfl rfl (zca 0 (st.length) rfl ty3 rfl rfl (gD (d:=0) (by omega)) rfl) (fun _ hok11=> ?_)
      replace hok11:=zn.1 hok11
      refine r_pv rfl rfl (zd rfl)<|zj<|zf<|zi ?_
      have e12:((((st++[pp]).map Fl.iz).getD (st.length) 0):Int)=((pp:Nat):Int):=by exact Fl.getD_iz st pp
      rw [e12]
      refine zc<|r_pv rfl rfl (zb rfl)<|r_pv rfl rfl (zb rfl)<|r_pv rfl rfl (zR Tryz.underlying22 rfl)<|r_pv rfl rfl (zha (z:=(((st.length):Nat):Int)) rfl rfl (w64 (by omega)))<|r_pv rfl rfl (zpb (hi:=(st.length)) Tryz.underlying22 sz3 rfl (.s rfl) (.inr ⟨_,rfl⟩) (by omega))<|r_pv rfl rfl (zd rfl)<|zj<|zf<|zi<|c_mem (fun w mm=>mm.rowTake 0 rfl (st.length)) ?_
      dsimp only [List.set]
      have e13:((st++[pp]).map Fl.iz).take (st.length)=st.map Fl.iz:=by simp
      rw [e13]
      refine zc<|r_pv rfl rfl (zb rfl)<|r_pv rfl rfl (zR Tryz.underlying76 rfl)<|r_pv rfl rfl (zb rfl)<|zj<|zf<|zM<|zoa (X:=Nat×(List Int)×(List Nat)×(Option Addr)×Nat) (fun x:Nat×(List Int)×(List Nat)×(Option Addr)×Nat=>x.1≤8∧Fl.FlP n (Fl.lo l th) (Fl.nb true w n) cc i x.2.1 x.2.2.1 pp (Fl.Dst w h pp Fl.st8 x.1)∧2*Fl.unv x.2.1+x.2.2.1.length≤2*Fl.unv o2+st.length) (fun x=>[(13,.slice (x.2.2.2.1) (x.2.2.1.length) (x.2.2.2.2)),(74,.int .i64 ((x.1:Nat):Int)),(73,.int .i64 ((8:Nat):Int)),(72,.slice p2 8 c2),(14,.int .i64 ((pp:Nat):Int)),(10,.int .i64 (((Fl.cnt (Fl.ldr (Fl.lo l th) cc) i):Nat):Int)),(36,.int .i64 ((i:Nat):Int)),(35,.int .i64 ((n:Nat):Int)),(34,.slice p n cap),(8,.slice (some ⟨b2,0,none⟩) n n),(7,.int .i64 0),(6,.slice none 0 0),(3,.pointer (some ⟨b1,0,none⟩)),(1,.func (.func 50) #[] #[.pointer (some ⟨tb,0,none⟩)]),(2,.slice p2 8 c2)]) (fun x=>[rowA 3 (rI .i64) (x.2.2.2.1) (x.2.2.2.2) (x.2.2.1.map Fl.iz),rowA 3 (rI .i64) (some ⟨b2,0,none⟩) n (x.2.1),boxA b1 24 [.int .i64 ((w:Nat):Int),.int .i64 ((h:Nat):Int),.int .i64 m,.slice p n cap]]) (fun x=>[atF b5 o6 [.int .i64 (l.getD i 0)],slF (rI .i64) p cap l,atF tb 0 [.int .i64 th],slF (rI2 .i64) p2 c2 (Fl.st8)]) (fun x:Nat×(List Int)×(List Nat)×(Option Addr)×Nat=>8 - x.1) (0,o2,st,p4,c4) (show 0≤8∧Fl.FlP n (Fl.lo l th) (Fl.nb true w n) cc i o2 st pp (Fl.Dst w h pp Fl.st8 0)∧2*Fl.unv o2+st.length≤2*Fl.unv o2+st.length from by exact ⟨Nat.zero_le _,Fl.FlP.start hF,Nat.le_refl _⟩) ((.c rfl (.e rfl (by first|rfl|(congr 1;omega)|simp_all) (.of rfl))):SubM _ _) (ho:=((.of [0,0,0] rfl):PickO _ _ _)) ((.of [0,1,2,3] rfl):SelR _ _ _) ?_
      rintro ⟨q,o3,s3,p5,c5⟩ hQ
      replace hQ:q≤8∧Fl.FlP n (Fl.lo l th) (Fl.nb true w n) cc i o3 s3 pp (Fl.Dst w h pp Fl.st8 q)∧2*Fl.unv o3+s3.length≤2*Fl.unv o2+st.length:=hQ
      try dsimp only
      obtain ⟨hq,hP1,hP2⟩:=hQ
      have ho3:=hP1.len
      refine zi<|zc<|r_pv rfl rfl (zfa rfl rfl)<|zj<|zf<|zi<|zK rfl (fun h14=> ?_) (fun h14=> ?_)
      ·
       have hst9:Fl.st8.length=8:=rfl
       have hd9:=Fl.stp8.ok _ (Fl.gD_mem (l:=Fl.st8) (q:=q) (by show q<8;omega))
       have hpb:=Fl.at_b hw hP1.pop.1 hb hd9.1 hd9.2.1
       refine zD<|zf<|zi<|zM<|zi<|zc<|zS (x0:=(Fl.st8.getD q (0,0))) 3 q rfl Tryz.underlying76 sz91 rfl rfl rfl (by first|rfl|assumption|(simp only [List.length_append,List.length_map,List.length_cons,List.length_nil];done)|(simp only [List.length_append,List.length_map,List.length_cons,List.length_nil];omega)|omega) rfl rfl (gD (d:=(0,0)) (by omega)) (fun b15 o16 hok17=> ?_)
       obtain ⟨hok17x,hok17y⟩:=hok17
       replace hok17x:=zn.1 hok17x
       replace hok17y:=zn.1 hok17y
       refine r_u rfl rfl (zTa (j:=0) 0 ty91 rfl rfl rfl (.take (.take .nil)))<|zJ rfl rfl (zu zr91 rfl) (fun b18=> ?_)
       refine zl 0 rfl rfl rfl rfl rfl sz91 rfl (.take (.take .nil)) .z<|zj<|zf<|zi<|zaa (OW:=[]) (O:=[boxA b18 91 [.int .i64 ((Fl.st8.getD q (0,0)).1),.int .i64 ((Fl.st8.getD q (0,0)).2)],rowA 3 (rI .i64) p5 c5 (s3.map Fl.iz),rowA 3 (rI .i64) (some ⟨b2,0,none⟩) n o3,boxA b1 24 [.int .i64 ((w:Nat):Int),.int .i64 ((h:Nat):Int),.int .i64 m,.slice p n cap]]) 100000 mixed (.then (.block (.then (.then (.block (.block (.then (.block (.then (.block (.then (.then (.block (.then .ret)))))))))))))) (by kernel_rfl)<|d_pv 0 rfl rfl (by kernel_rfl) (by kernel_rfl) rfl rfl (zb rfl)<|d_pv 1 rfl rfl (by kernel_rfl) (by kernel_rfl) rfl rfl (zh Tryz.underlying24 rfl sz3 rfl rfl)<|d_u 2 rfl rfl (by kernel_rfl) (by kernel_rfl) rfl rfl (ze 3 ty3 rfl rfl rfl)<|d_pv 3 rfl rfl (by kernel_rfl) (by kernel_rfl) rfl rfl (zSa (z:=(((pp%w):Nat):Int)) rfl rfl (by omega) (remN (by omega) (by omega)))<|d_pv 4 rfl rfl (by kernel_rfl) (by kernel_rfl) rfl rfl (zWa (i:=0) Tryz.underlying91 sz3 rfl rfl (by decide) rfl)<|d_u 5 rfl rfl (by kernel_rfl) (by kernel_rfl) rfl rfl (ze 0 ty3 rfl rfl rfl)<|d_pv 6 rfl rfl (by kernel_rfl) (by kernel_rfl) rfl rfl (zN (z:=((((pp%w):Nat):Int)+(Fl.st8.getD q (0,0)).1)) rfl rfl (w64 (by omega)))<|d_pv 7 rfl rfl (by kernel_rfl) (by kernel_rfl) rfl rfl (zb rfl)<|d_pv 8 rfl rfl (by kernel_rfl) (by kernel_rfl) rfl rfl (zh Tryz.underlying24 rfl sz3 rfl rfl)<|d_u 9 rfl rfl (by kernel_rfl) (by kernel_rfl) rfl rfl (ze 3 ty3 rfl rfl rfl)<|d_pv 10 rfl rfl (by kernel_rfl) (by kernel_rfl) rfl rfl (zRa (z:=(((pp / w):Nat):Int)) rfl rfl (by omega) (by rw [quoN (z:=(((pp / w):Nat):Int)) (by omega) (by omega)];exact w64 (by omega)))<|d_pv 11 rfl rfl (by kernel_rfl) (by kernel_rfl) rfl rfl (zWa (i:=1) Tryz.underlying91 sz3 rfl rfl (by decide) rfl)<|d_u 12 rfl rfl (by kernel_rfl) (by kernel_rfl) rfl rfl (ze 0 ty3 rfl rfl rfl)<|d_pv 13 rfl rfl (by kernel_rfl) (by kernel_rfl) rfl rfl (zN (z:=((((pp / w):Nat):Int)+(Fl.st8.getD q (0,0)).2)) rfl rfl (w64 (by omega)))<|d_pv 14 rfl rfl (by kernel_rfl) (by kernel_rfl) rfl rfl (zd rfl)<|d_pv 15 rfl rfl (by kernel_rfl) (by kernel_rfl) rfl rfl (zd rfl)<|zY (by kernel_rfl)<|zf<|zi ?_
       obtain ⟨kx,hkx⟩:∃z,z=((((pp%w):Nat):Int)+(Fl.st8.getD q (0,0)).1):=⟨_,rfl⟩
       rw [← hkx]
       obtain ⟨ky,hky⟩:∃z,z=((((pp / w):Nat):Int)+(Fl.st8.getD q (0,0)).2):=⟨_,rfl⟩
       rw [← hky]
       have hkyw: -64≤ky*((w:Nat):Int)∧ky*((w:Nat):Int)≤4160:=by rw [hky];exact hpb.1
       have hkxb: -1≤kx∧kx≤64:=by rw [hkx];exact hpb.2.1
       refine zc<|r_pv rfl rfl (zb rfl)<|r_pv rfl rfl (zh Tryz.underlying24 rfl sz3 rfl rfl)<|r_u rfl rfl (ze 3 ty3 rfl rfl rfl)<|r_pv rfl rfl (zda (z:=(ky*((w:Nat):Int))) rfl rfl (w64 (by omega)))<|r_pv rfl rfl (zb rfl)<|r_pv rfl rfl (zN (z:=((ky*((w:Nat):Int))+kx)) rfl rfl (w64 (by omega)))<|r_pv rfl rfl (zd rfl)<|zj<|zf ?_
       obtain ⟨kj,hkj⟩:∃z,z=((ky*((w:Nat):Int))+kx):=⟨_,rfl⟩
       rw [← hkj]
       refine zQa (X:=Unit) (fun x=>True) (fun x=>[(131,.bool (decide (Fl.CP w h pp (Fl.lo l th) o3 (Fl.st8.getD q (0,0))))),(19,.int .i64 kj),(13,.slice p5 (s3.length) c5),(74,.int .i64 ((q:Nat):Int)),(73,.int .i64 ((8:Nat):Int)),(72,.slice p2 8 c2),(14,.int .i64 ((pp:Nat):Int)),(10,.int .i64 (((Fl.cnt (Fl.ldr (Fl.lo l th) cc) i):Nat):Int)),(36,.int .i64 ((i:Nat):Int)),(35,.int .i64 ((n:Nat):Int)),(34,.slice p n cap),(8,.slice (some ⟨b2,0,none⟩) n n),(7,.int .i64 0),(6,.slice none 0 0),(3,.pointer (some ⟨b1,0,none⟩)),(1,.func (.func 50) #[] #[.pointer (some ⟨tb,0,none⟩)]),(2,.slice p2 8 c2)]) (fun x=>[boxA b18 91 [.int .i64 ((Fl.st8.getD q (0,0)).1),.int .i64 ((Fl.st8.getD q (0,0)).2)],rowA 3 (rI .i64) p5 c5 (s3.map Fl.iz),rowA 3 (rI .i64) (some ⟨b2,0,none⟩) n o3,boxA b1 24 [.int .i64 ((w:Nat):Int),.int .i64 ((h:Nat):Int),.int .i64 m,.slice p n cap]]) (fun x=>[atF b15 o16 [.int .i64 ((Fl.st8.getD q (0,0)).1),.int .i64 ((Fl.st8.getD q (0,0)).2)],atF b5 o6 [.int .i64 (l.getD i 0)],slF (rI .i64) p cap l,atF tb 0 [.int .i64 th],slF (rI2 .i64) p2 c2 (Fl.st8)]) ?_ ?_
       ·
        refine zc<|r_pv rfl rfl (zb rfl)<|r_pv rfl rfl (zFa rfl rfl)<|zO rfl rfl (zb rfl) (fun hx0=> ?_) (fun hx0=> ?_)
        ·
         refine r_pv rfl rfl (zb rfl)<|r_pv rfl rfl (zFa rfl rfl)<|r_pv rfl rfl (zk rfl rfl)<|zO rfl rfl (zb rfl) (fun hx1=> ?_) (fun hx1=> ?_)
         ·
          refine r_pv rfl rfl (zb rfl)<|r_pv rfl rfl (zh Tryz.underlying24 rfl sz3 rfl rfl)<|r_u rfl rfl (ze 3 ty3 rfl rfl rfl)<|r_pv rfl rfl (zfa rfl rfl)<|r_pv rfl rfl (zk rfl rfl)<|zO rfl rfl (zb rfl) (fun hx2=> ?_) (fun hx2=> ?_)
          ·
           refine r_pv rfl rfl (zb rfl)<|r_pv rfl rfl (zh Tryz.underlying24 rfl sz3 rfl rfl)<|r_u rfl rfl (ze 3 ty3 rfl rfl rfl)<|r_pv rfl rfl (zfa rfl rfl)<|r_pv rfl rfl (zk rfl rfl)<|zO rfl rfl (zb rfl) (fun hx3=> ?_) (fun hx3=> ?_)
           ·
            have hat:kj.toNat=Fl.atD w pp (Fl.st8.getD q (0,0)):=by rw [hkj,hky,hkx];rfl
            have hiD:Fl.inD w h pp (Fl.st8.getD q (0,0)):=⟨hkx ▸ hx0,hky ▸ hx1,hkx ▸ hx2,hky ▸ hx3⟩
            have hpx:=hiD.pix
            have hkj0:0≤kj∧kj.toNat<n:=⟨by rw [hkj,hky,hkx];exact hpx.1,by rw [hat,hwh];exact hpx.2⟩
            refine r_pv rfl rfl (zb rfl)<|r_pv rfl rfl (zb rfl)<|r_pv rfl rfl (zW (j:=(kj).toNat) Tryz.underlying22 sz3 rfl rfl (by omega) (by omega))<|r_vl rfl rfl (zca 2 ((kj).toNat) rfl ty3 rfl rfl (gD (d:=0) (by omega)) rfl) (fun _ hok19=> ?_)
            replace hok19:=zn.1 hok19
            refine r_pv rfl rfl (zfa rfl rfl)<|r_pv rfl rfl (zk rfl rfl)<|zO rfl rfl (zb rfl) (fun hx4=> ?_) (fun hx4=> ?_)
            ·
             refine r_pv rfl rfl (zb rfl)<|r_pv rfl rfl (zh Tryz.underlying24 rfl sz22 rfl rfl)<|r_u rfl rfl (ze 3 ty22 rfl rfl rfl)<|r_pv rfl rfl (zb rfl)<|zS (x0:=(l.getD ((kj).toNat) 0)) 2 ((kj).toNat) rfl Tryz.underlying22 sz3 rfl rfl rfl (by first|rfl|assumption|(simp only [List.length_append,List.length_map,List.length_cons,List.length_nil];done)|(simp only [List.length_append,List.length_map,List.length_cons,List.length_nil];omega)|omega) rfl (by omega) (gD (d:=0) (by omega)) (fun b20 o21 hok22=> ?_)
             replace hok22:=zn.1 hok22
             refine r_u rfl rfl (zo (j:=0) 0 ty3 rfl rfl rfl rfl)<|zAc (first:=[]) (cap:=[.pointer (some ⟨tb,0,none⟩)]) rfl rfl rfl (.c rfl .n) ce50 (zcd (g:=(l.getD ((kj).toNat) 0)) (th:=th) (tb:=tb)) (.c (j:=4) rfl .n) ?_
             rintro ⟨⟩ -
             dsimp only [List.append_eq,List.nil_append,List.cons_append]
             refine r_pv rfl rfl (zk rfl rfl)<|zj ?_
             exact zZ () (show True from by first|trivial|omega|simp_all) ((.e rfl (congrArg Value.bool (by exact decide_eq_decide.2 ⟨fun h9=>⟨hiD,by rw [← hat];exact hx4,by rw [← hat];exact (Fl.lo_iff (by omega)).2 h9⟩,fun h9=>(Fl.lo_iff (by omega)).1 (by rw [hat];exact h9.2.2)⟩)) (.of rfl)):SubM _ _) (ho:=((.of [0,0,0,0] rfl):PickO _ _ _)) ((.of [1,2,3,4,5] rfl):SelR _ _ _)
            ·
             refine za rfl rfl<|za rfl rfl<|za rfl rfl<|za rfl rfl<|za rfl rfl<|za rfl rfl<|za rfl rfl<|r_pv rfl rfl (zk rfl rfl)<|zj ?_
             exact zZ () (show True from by first|trivial|omega|simp_all) ((.e rfl (congrArg Value.bool (by exact Eq.symm (decide_eq_false (fun h9=>hx4 (by rw [hat];exact h9.2.1))))) (.of rfl)):SubM _ _) (ho:=((.of [0,0,0,0] rfl):PickO _ _ _)) ((.of [0,1,2,3,4] rfl):SelR _ _ _)
           ·
            refine za rfl rfl<|za rfl rfl<|za rfl rfl<|za rfl rfl<|za rfl rfl<|r_pv rfl rfl (zk rfl rfl)<|r_pv rfl rfl (zb rfl)<|za rfl rfl<|za rfl rfl<|za rfl rfl<|za rfl rfl<|za rfl rfl<|za rfl rfl<|za rfl rfl<|r_pv rfl rfl (zk rfl rfl)<|zj ?_
            exact zZ () (show True from by first|trivial|omega|simp_all) ((.e rfl (congrArg Value.bool (by exact Eq.symm (decide_eq_false (fun h9=>hx3 (by rw [hky];exact h9.1.2.2.2))))) (.of rfl)):SubM _ _) (ho:=((.of [0,0,0,0] rfl):PickO _ _ _)) ((.of [0,1,2,3,4] rfl):SelR _ _ _)
          ·
           refine za rfl rfl<|za rfl rfl<|za rfl rfl<|za rfl rfl<|r_pv rfl rfl (zk rfl rfl)<|r_pv rfl rfl (zb rfl)<|za rfl rfl<|za rfl rfl<|za rfl rfl<|za rfl rfl<|za rfl rfl<|r_pv rfl rfl (zk rfl rfl)<|r_pv rfl rfl (zb rfl)<|za rfl rfl<|za rfl rfl<|za rfl rfl<|za rfl rfl<|za rfl rfl<|za rfl rfl<|za rfl rfl<|r_pv rfl rfl (zk rfl rfl)<|zj ?_
           exact zZ () (show True from by first|trivial|omega|simp_all) ((.e rfl (congrArg Value.bool (by exact Eq.symm (decide_eq_false (fun h9=>hx2 (by rw [hkx];exact h9.1.2.2.1))))) (.of rfl)):SubM _ _) (ho:=((.of [0,0,0,0] rfl):PickO _ _ _)) ((.of [0,1,2,3,4] rfl):SelR _ _ _)
         ·
          refine za rfl rfl<|za rfl rfl<|za rfl rfl<|za rfl rfl<|r_pv rfl rfl (zk rfl rfl)<|r_pv rfl rfl (zb rfl)<|za rfl rfl<|za rfl rfl<|za rfl rfl<|za rfl rfl<|r_pv rfl rfl (zk rfl rfl)<|r_pv rfl rfl (zb rfl)<|za rfl rfl<|za rfl rfl<|za rfl rfl<|za rfl rfl<|za rfl rfl<|r_pv rfl rfl (zk rfl rfl)<|r_pv rfl rfl (zb rfl)<|za rfl rfl<|za rfl rfl<|za rfl rfl<|za rfl rfl<|za rfl rfl<|za rfl rfl<|za rfl rfl<|r_pv rfl rfl (zk rfl rfl)<|zj ?_
          exact zZ () (show True from by first|trivial|omega|simp_all) ((.e rfl (congrArg Value.bool (by exact Eq.symm (decide_eq_false (fun h9=>hx1 (by rw [hky];exact h9.1.2.1))))) (.of rfl)):SubM _ _) (ho:=((.of [0,0,0,0] rfl):PickO _ _ _)) ((.of [0,1,2,3,4] rfl):SelR _ _ _)
        ·
         refine za rfl rfl<|za rfl rfl<|r_pv rfl rfl (zk rfl rfl)<|r_pv rfl rfl (zb rfl)<|za rfl rfl<|za rfl rfl<|za rfl rfl<|za rfl rfl<|r_pv rfl rfl (zk rfl rfl)<|r_pv rfl rfl (zb rfl)<|za rfl rfl<|za rfl rfl<|za rfl rfl<|za rfl rfl<|r_pv rfl rfl (zk rfl rfl)<|r_pv rfl rfl (zb rfl)<|za rfl rfl<|za rfl rfl<|za rfl rfl<|za rfl rfl<|za rfl rfl<|r_pv rfl rfl (zk rfl rfl)<|r_pv rfl rfl (zb rfl)<|za rfl rfl<|za rfl rfl<|za rfl rfl<|za rfl rfl<|za rfl rfl<|za rfl rfl<|za rfl rfl<|r_pv rfl rfl (zk rfl rfl)<|zj ?_
         exact zZ () (show True from by first|trivial|omega|simp_all) ((.e rfl (congrArg Value.bool (by exact Eq.symm (decide_eq_false (fun h9=>hx0 (by rw [hkx];exact h9.1.1))))) (.of rfl)):SubM _ _) (ho:=((.of [0,0,0,0] rfl):PickO _ _ _)) ((.of [0,1,2,3,4] rfl):SelR _ _ _)
       ·
        rintro ⟨⟩ -
        try dsimp only
        refine zK rfl (fun hc=> ?_) (fun hc=> ?_)
        ·
         have hat:kj.toNat=Fl.atD w pp (Fl.st8.getD q (0,0)):=by rw [hkj,hky,hkx];rfl
         have hpx:=hc.1.pix
         have hkj0:0≤kj∧kj.toNat<n:=⟨by rw [hkj,hky,hkx];exact hpx.1,by rw [hat,hwh];exact hpx.2⟩
         refine zi<|zc<|r_pv rfl rfl (zb rfl)<|r_pv rfl rfl (zb rfl)<|r_pv rfl rfl (zb rfl)<|r_pv rfl rfl (zW (j:=(kj).toNat) Tryz.underlying22 sz3 rfl rfl (by omega) (by omega))<|zAa 2 rfl rfl rfl (zU (j:=(kj).toNat) (x0:=(((Fl.cnt (Fl.ldr (Fl.lo l th) cc) i):Nat):Int)) (γ0:=()) rfl rfl (by first|omega|(rw [List.length_map];omega)|(simp only [List.length_set];omega)|(simp;omega)) rfl rfl sz3 (fun _ _=>by exact zn.2 (by omega))) (fun _=>(.s (.s .z))) (fun _ _=> ?_)
         refine zj<|zf<|zc<|r_pv rfl rfl (zb rfl)<|r_pv rfl rfl (zb rfl)<|zxa rfl rfl (zP (enc:=fun z:Int=>[.int .i64 z]) (ok:=InK .i64) (h1:=fun _=>rfl) (h2:=fun _=>rfl) (k:=1) Tryz.underlying22 inf3 rfl (by decide) (by decide) (by decide) (.c (x:=kj) rfl rfl (fun _ _=>by exact zn.2 (by omega)) .n)) (fun b23 _=> ?_)
         refine zja 0 rfl .z<|zAa 2 rfl rfl rfl (zva 0 rfl Tryz.underlying22 inf3 (by decide) rfl rfl (by first|rfl|assumption|(simp only [List.length_append,List.length_map,List.length_cons,List.length_nil];done)|(simp only [List.length_append,List.length_map,List.length_cons,List.length_nil];omega)|omega) rfl (by first|rfl|assumption|(simp only [List.length_append,List.length_map,List.length_cons,List.length_nil];done)|(simp only [List.length_append,List.length_map,List.length_cons,List.length_nil];omega)|omega) (by omega) (by omega)) (fun _=>(.s (.s .z))) ?_
         rintro ⟨p24,c25⟩ -
         dsimp only [List.append_eq,List.nil_append,List.cons_append]
         refine r_pv rfl rfl (zd rfl)<|zj<|zX<|zf<|zc<|r_pv rfl rfl (zN (z:=(((q+1):Nat):Int)) rfl rfl (w64 (by omega)))<|r_pv rfl rfl (zb rfl)<|zj<|zia ((q+1),(o3.set ((kj).toNat) (((Fl.cnt (Fl.ldr (Fl.lo l th) cc) i):Nat):Int)),(s3++[(kj).toNat]),p24,c25) (show (q+1)≤8∧Fl.FlP n (Fl.lo l th) (Fl.nb true w n) cc i (o3.set ((kj).toNat) (((Fl.cnt (Fl.ldr (Fl.lo l th) cc) i):Nat):Int)) (s3++[(kj).toNat]) pp (Fl.Dst w h pp Fl.st8 (q+1))∧2*Fl.unv (o3.set ((kj).toNat) (((Fl.cnt (Fl.ldr (Fl.lo l th) cc) i):Nat):Int))+(s3++[(kj).toNat]).length≤2*Fl.unv o2+st.length from by have h9:=hP1.yes Fl.stp8 hwh (by show q<8;omega) hcc hc.1 hc.2.1 hc.2.2;rw [← hat] at h9;exact ⟨by omega,h9.1,by omega⟩) (by show 8 - (q+1)<8 - q;omega) ((.e rfl (by simp) (.of rfl)):SubM _ _) (ho:=((.e (i:=2) rfl (by first|rfl|(dsimp only;rw [List.map_append,List.map_cons,List.map_nil,show Fl.iz ((kj).toNat)=kj by unfold Fl.iz;omega])) (.of [2,2] rfl)):PickO _ _ _)) ((.of [2,3,4,5] rfl):SelR _ _ _)
        ·
         refine zD<|zX<|zf<|zc<|r_pv rfl rfl (zN (z:=(((q+1):Nat):Int)) rfl rfl (w64 (by omega)))<|r_pv rfl rfl (zb rfl)<|zj<|zia ((q+1),o3,s3,p5,c5) (show (q+1)≤8∧Fl.FlP n (Fl.lo l th) (Fl.nb true w n) cc i o3 s3 pp (Fl.Dst w h pp Fl.st8 (q+1))∧2*Fl.unv o3+s3.length≤2*Fl.unv o2+st.length from by exact ⟨by omega,hP1.no Fl.stp8 hwh (by show q<8;omega) hcc hc,hP2⟩) (by show 8 - (q+1)<8 - q;omega) ((.of rfl):SubM _ _) (ho:=((.of [1,1,1] rfl):PickO _ _ _)) ((.of [1,2,3,4] rfl):SelR _ _ _)
      ·
       refine zla<|zp<|zp<|zC<|zX<|zia (o3,s3,p5,c5) (show Fl.Fld n (Fl.lo l th) (Fl.nb true w n) cc i o3 s3∧2*Fl.unv o3+s3.length≤2*n+1 from by refine ⟨?_,?_⟩;(have h9:q=8:=(by omega));subst h9;exact hP1.end_ Fl.stp8 (by omega) hwh;have h8:=hFm;rw [List.length_append] at h8;simp only [List.length_cons,List.length_nil] at h8;omega) (by have h9:=hP2;rw [List.length_append];simp only [List.length_cons,List.length_nil];omega) ((.of rfl):SubM _ _) (ho:=((.of [0,0,0] rfl):PickO _ _ _)) ((.of [0,1,2,3] rfl):SelR _ _ _)
     ·
      refine zla<|zp<|zp<|zC<|zf<|zc<|r_pv rfl rfl (zb rfl)<|r_pv rfl rfl (zN (z:=((((Fl.cnt (Fl.ldr (Fl.lo l th) cc) i)+1):Nat):Int)) rfl rfl (w64 (by omega)))<|r_pv rfl rfl (zd rfl)<|zj<|zX<|zf<|zc<|r_pv rfl rfl (zN (z:=(((i+1):Nat):Int)) rfl rfl (w64 (by omega)))<|r_pv rfl rfl (zb rfl)<|zj<|zia ((i+1),o2) (show (i+1)≤n∧Fl.OutI n (Fl.lo l th) cc (i+1) o2 from by exact ⟨by omega,(by have h9:sk=[]:=(by cases sk with|nil=>rfl|cons a t=>simp at hso);subst h9;exact hF.fin hcc (fun _ _=>Fl.nb_symm) (fun _ _ h8=>Fl.nb_lt h8) (by omega) hfi)⟩) (by show n - (i+1)<n - i;omega) ((.e rfl (congrArg (Value.int .i64) (by dsimp only;rw [Fl.cnt_succ,hld];simp)) (.of rfl)):SubM _ _) (ho:=((.of [1,1] rfl):PickO _ _ _)) ((.of [1,2,3] rfl):SelR _ _ _)
  ·
   refine zla<|zp<|zp<|zC<|zf<|zi<|zc<|r_pv rfl rfl (zb rfl)<|r_pv rfl rfl (zb rfl)<|r_pv rfl rfl (zd rfl)<|r_pv rfl rfl (zd rfl)<|zj<|zf<|zI ?_
   have hin8:i=n:=by omega
   rw [hin8] at ho
   refine zcb 0 rfl .z ?_
   exact zpa Tryz.results49 (some ⟨b2,0,none⟩,n,o,cc) (⟨hcc,ho⟩) (zt rfl) (zt rfl) (by rw [hin8]) (ho:=(.n:PickO _ _ _)) ((.c (j:=0) rfl .n):SelR _ _ _)
end Go.Proofs.YtefbbhiaalcjfaaGreat.Sp
namespace Go.Proofs.YtefbbhiaalcjfaaGreat.Fl
section
variable {n i k : Nat} {f : Nat → Bool} {adj : Nat → Nat → Prop} {c : Nat → Nat} {num A : List Int}
structure LbI (n:Nat) (f:Nat→Bool) (c:Nat→Nat) (i:Nat) (num:List Int) (A:List Int):Prop where
  nl:num.length=n
  al:A.length=i
  lead:∀j,j<i→ldr f c j=true→num.getD j 0=(cnt (ldr f c) j:Int)
  yes:∀j,j<i→f j=true→A.getD j 0=(cnt (ldr f c) (c j):Int)
  not:∀j,j<i→¬f j=true→A.getD j 0= -1
theorem getD_snoc_lt {A:List Int} {x:Int} {j:Nat} (h:j<A.length):(A++[x]).getD j 0=A.getD j 0:=by
  rw [List.getD_eq_getElem?_getD,List.getElem?_append_left h,←List.getD_eq_getElem?_getD]
theorem getD_snoc_eq {A:List Int} {x:Int}:(A++[x]).getD A.length 0=x:=by
  rw [List.getD_eq_getElem?_getD,List.getElem?_append_right (Nat.le_refl _)];simp
theorem LbI.start:LbI n f c 0 (List.replicate n 0) []:=⟨by simp,rfl,fun j h=>by omega,fun j h=>by omega,fun j h=>by omega⟩
theorem ldr_iff {j:Nat}:ldr f c j=true↔f j=true∧c j=j:=by simp [ldr]
theorem LbI.out (h:LbI n f c i num A) (hf:¬f i=true):LbI n f c (i+1) num (A++[-1])∧cnt (ldr f c) (i+1)=cnt (ldr f c) i:=by
  have hl:¬ldr f c i=true:=fun k=>hf (ldr_iff.1 k).1
  refine ⟨⟨h.nl,by simp [h.al],fun j hj hx=> ?_,fun j hj hx=> ?_,fun j hj hx=> ?_⟩,by rw [cnt_succ,if_neg hl];rfl⟩
  · exact h.lead j (by by_cases e:j=i;exact absurd (e ▸ hx) hl;omega) hx
  · have e : j ≠ i := fun e => hf (e ▸ hx)
    rw [getD_snoc_lt (by rw [h.al];omega)];exact h.yes j (by omega) hx
  · by_cases e : j = i
    · rw [e,←h.al];exact getD_snoc_eq
    · rw [getD_snoc_lt (by rw [h.al];omega)];exact h.not j (by omega) hx
theorem LbI.lab (h:LbI n f c n num A) (hcl:Lst (fun j=>f j=true) adj c):Lab n f adj A:=⟨h.al,c,hcl,h.yes,h.not⟩
end
def LabR (w h m:Int) (l:List Int) (th:Int) (o:List Int):Prop:=
  (Bl.rok w h m l∧0≤th∧th≤65536→Lab l.length (ge l th) (nb false w.toNat l.length) o)∧(¬(Bl.rok w h m l∧0≤th∧th≤65536)→o=[])
theorem LabR.uniq {w h m th:Int} {l o o2:List Int} (a:LabR w h m l th o) (b:LabR w h m l th o2):o=o2:=by
  by_cases e:Bl.rok w h m l∧0≤th∧th≤65536
  · exact (a.1 e).uniq (b.1 e)
  · rw [a.2 e,b.2 e]
theorem LabR.no {w h m th:Int} {l:List Int} (e:¬(Bl.rok w h m l∧0≤th∧th≤65536)):LabR w h m l th []:=⟨fun k=>absurd k e,fun _=>rfl⟩
theorem LabR.yes {w n:Nat} {h m th:Int} {l o:List Int} (e:Bl.rok w h m l∧0≤th∧th≤65536) (hn:l.length=n) (k:Lab n (ge l th) (nb false w n) o):LabR w h m l th o:=by
  subst hn;exact ⟨fun _=>k,fun x=>absurd e x⟩
theorem ask0 {w h m th:Int} {l:List Int}:(if Bl.rok w h m l then (if 0≤th∧th≤65536 then (0:Int) else 2) else 1)=0↔Bl.rok w h m l∧0≤th∧th≤65536:=by
  by_cases e:Bl.rok w h m l
  · rw [if_pos e]; by_cases k : 0 ≤ th ∧ th ≤ 65536
    · rw [if_pos k];exact ⟨fun _=>⟨e,k⟩,fun _=>rfl⟩
    · rw [if_neg k];exact ⟨fun x=>by omega,fun x=>absurd x.2 k⟩
  · rw [if_neg e];exact ⟨fun x=>by omega,fun x=>absurd x.1 e⟩
theorem rok_n {w h m:Int} {l:List Int} {n:Nat} (e:Bl.rok w h m l) (hn:l.length=n):∃a b:Nat,w=(a:Int)∧h=(b:Int)∧(1≤a∧a≤64)∧(1≤b∧b≤64)∧n=a*b∧n≤4096:=by
  obtain ⟨h1,h2,_,h4,_⟩:=e
  obtain ⟨a,ha⟩:∃a:Nat,w=(a:Int):=⟨w.toNat,by omega⟩
  obtain ⟨b,hb⟩:∃b:Nat,h=(b:Int):=⟨h.toNat,by omega⟩
  subst ha;subst hb
  rw [← Int.natCast_mul] at h4
  have h5:n=a*b:=by omega
  have h6:a*b≤64*64:=Nat.mul_le_mul (by omega) (by omega)
  exact ⟨a,b,rfl,rfl,by omega,by omega,h5,by omega⟩
end Go.Proofs.YtefbbhiaalcjfaaGreat.Fl
