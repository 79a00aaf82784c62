/- Lemmas on the walk and plain lemmas that the claim of this folder uses; each states its own conditions. Lines were printed by a program of ours. -/
import Derived.Test.YtjcpbhlijoigfaaGreatZ5C
set_option linter.unusedVariables false
set_option linter.unusedSimpArgs false
set_option linter.unusedSectionVars false
open Go.Value renaming int → ya, pointer → yc
open Go.IntKind renaming i64 → yb
open Go.Proofs.YtjcpbhlijoigfaaGreat.Big renaming digs → yd, raw → yf, valL → yk, ln → yo, digs_ok → yp, okL_getD → yq, zU → yr, raw_big → yu, valL_digs → yx, okL → yy, trimL → yA, sg → yB, hq_num → yC, hq_den → yD, nn → yH, len_digs_nil → yI, zab → yJ, valL_nonneg → yL, pw → yM, ln_mono' → yN, hq → yO, zOa → yQ, okL_snoc → yR, qv → yS, den_ne → yT, LgI → yU
open Go.Proofs.Tryz renaming underlying39 → ye, underlying41 → yg, underlying121 → yh, underlying120 → yi, underlying43 → yj, prog → yl, underlying69 → yn, underlying34 → yv, underlying2 → yw, underlying4 → yz, results129 → yG, results155 → yK
open Go.Proofs.YtjcpbhlijoigfaaGreat.Pg renaming gq → ym, clN → yt, sdq → yE, hp_awq → yF, awq → yP
namespace Go.Proofs.YtjcpbhlijoigfaaGreat.Sp
open Go
set_option linter.unusedVariables false
set_option maxRecDepth 100000
set_option maxHeartbeats 8000000
theorem zbg {a:Nat} {b:Nat} {p1:Option Addr} {c1:Nat} {p2:Option Addr} {c2:Nat} (hb1:(yd a).length≤4398046511104) (hb2:(yd b).length≤4398046511104) (hb3:2≤(yd b).length) (hab:b≤a):Con yl 161 [.slice p1 ((yd a).length) c1,.slice p2 ((yd b).length) c2] [] [slF (rI .u32) p1 c1 (yd a),slF (rI .u32) p2 c2 (yd b)] (Y:=(Option Addr)×Nat×(Option Addr)×Nat) (fun y=>True) (fun y=> .tuple #[.slice (y.1) ((yd (a / b)).length) (y.2.1),.slice (y.2.2.1) ((yd (a%b)).length) (y.2.2.2)]) (fun y=>[]) (fun y=>[slF (rI .u32) (y.1) (y.2.1) (yd (a / b)),slF (rI .u32) (y.2.2.1) (y.2.2.2) (yd (a%b))]):=by
 refine zo Tryz.func161 rfl rfl rfl (fun c=> ?_)
 show RunC _ _ _ _ _ [(0,.slice p1 ((yd a).length) c1),(1,.slice p2 ((yd b).length) c2)] [] [slF (rI .u32) p1 c1 (yd a),slF (rI .u32) p2 c2 (yd b)]
 refine zea 0 rfl (fun hL0=> ?_)
 refine zea 1 rfl (fun hL1=> ?_)
 have hob:=yp b
 have htop:=yq hob ((yd b).length - 1)
 have hdt:=Big.digs_top (b:=b) (n:=(yd b).length - 1) om
 have hab2:=yN hab
 have hq1:0≤1000000000 / ((yd b).getD ((yd b).length - 1) 0+1):=Int.ediv_nonneg om om
 have hq2:1000000000 / ((yd b).getD ((yd b).length - 1) 0+1)≤500000000:=Int.ediv_le_of_le_mul om om
 refine zh<|za<|e_p (zd rfl)<|e_p (zd rfl)<|zi<|ze<|zh<|za<|e_mv rfl<|e_mv rfl<|e_p (zR ye rfl)<|e_p (zna (z:=((((yd b).length - 1):Nat):Int)) rfl rfl (w64 om))<|zX (x0:=((yd b).getD ((yd b).length - 1) 0)) 1 ((yd b).length - 1) rfl ye sz121 rfl rfl rfl (by first|rfl|assumption|(simp;done)|omega) rfl rfl (gD (d:=0) om) (fun b1 o2 hok3=> ?_)
 replace hok3:=zI.1 hok3
 refine e_ru (zB (j:=0) 0 ty121 rfl rfl rfl rfl)<|e_p (zN (z:=((yd b).getD ((yd b).length - 1) 0)) rfl (by rw [yh];rfl) yi (wu64 om))<|e_p (zO (z:=(((yd b).getD ((yd b).length - 1) 0)+1)) rfl rfl (wu64 om))<|e_p (zmb (z:=(1000000000 / (((yd b).getD ((yd b).length - 1) 0)+1))) rfl rfl om (by rw [quoN (z:=(1000000000 / (((yd b).getD ((yd b).length - 1) 0)+1))) om om];exact wu64 om))<|e_p (zN (z:=(1000000000 / (((yd b).getD ((yd b).length - 1) 0)+1))) rfl (by rw [yi];rfl) yh (wu32 om))<|e_p (zd rfl)<|zi<|ze<|zh ?_
 obtain ⟨s,hs⟩:∃s:Nat,s=(1000000000 / ((yd b).getD ((yd b).length - 1) 0+1)).toNat:=⟨_,rfl⟩
 obtain ⟨hs1,hs2,hs3⟩:=Big.scale_len (n:=(yd b).length - 1) om hs
 have hsd:=Big.digs_one hs1 (by omega:s<1000000000)
 have hsl:(yd s).length=1:=by rw [hsd];rfl
 have e4:((1000000000 / (((yd b).getD ((yd b).length - 1) 0)+1)):Int)=((s:Nat):Int):=by omega
 rw [e4]
 refine za<|e_mv rfl<|e_mv rfl<|zKa rfl rfl (zba (enc:=fun z:Int=>[.int .u32 z]) (ok:=InK .u32) (h1:=fun _=>rfl) (h2:=fun _=>rfl) (k:=1) ye inf121 rfl dd dd dd (.c (x:=((s:Nat):Int)) rfl rfl (fun _ _=>by exact zI.2 om) .n)) (fun b5 _=> ?_)
 refine zka 0 rfl .z ?_
 have e6:[((s:Nat):Int)]=yd s:=by exact hsd.symm
 rw [e6]
 have e7:(.slice (some ⟨b5,0,none⟩) 1 1:Value)= .slice (some ⟨b5,0,none⟩) ((yd s).length) 1:=by rw [hsl]
 rw [e7]
 refine zG rfl rfl (.c rfl (.c rfl .n)) ce118 (zVe (a:=a) (b:=s) (p1:=p1) (c1:=c1) (p2:=some ⟨b5,0,none⟩) (c2:=1) (hb1:=ass) (hb2:=cbb)) (.c (j:=2) rfl (.c (j:=0) rfl .n)) ?_
 rintro ⟨p38,c39⟩ -
 dsimp only [aq,nq,cq]
 refine e_p (zd rfl)<|zi<|ze<|zh<|za<|e_mv rfl<|e_mv rfl<|zKa rfl rfl (zba (enc:=fun z:Int=>[.int .u32 z]) (ok:=InK .u32) (h1:=fun _=>rfl) (h2:=fun _=>rfl) (k:=1) ye inf121 rfl dd dd dd (.c (x:=((s:Nat):Int)) rfl rfl (fun _ _=>by exact zI.2 om) .n)) (fun b10 _=> ?_)
 refine zka 0 rfl .z ?_
 have e11:[((s:Nat):Int)]=yd s:=by exact hsd.symm
 rw [e11]
 have e12:(.slice (some ⟨b10,0,none⟩) 1 1:Value)= .slice (some ⟨b10,0,none⟩) ((yd s).length) 1:=by rw [hsl]
 rw [e12]
 refine zG rfl rfl (.c rfl (.c rfl .n)) ce118 (zNd (a:=b) (b:=s) (p1:=p2) (c1:=c2) (p2:=some ⟨b10,0,none⟩) (c2:=1) (hb1:=ass) (hb2:=cbb)) (.c (j:=4) rfl (.c (j:=0) rfl .n)) ?_
 rintro ⟨p313,c314⟩ -
 dsimp only [aq,nq,cq]
 refine e_p (zd rfl)<|zi<|ze<|zh ?_
 obtain ⟨A,hA⟩:∃z,z=a*s:=⟨_,rfl⟩
 rw [← hA]
 obtain ⟨V,hV⟩:∃z,z=b*s:=⟨_,rfl⟩
 rw [← hV]
 have hAl:(yd a).length≤(yd A).length:=by rw [hA];exact Big.len_mul_ge hs1
 have hAl2:(yd A).length≤(yd a).length+1:=by have h8:=Big.len_mul_le a s;rw [hsl] at h8;rw [hA];exact h8
 obtain ⟨m,hm⟩:∃z,(yd V).length=z+2:=⟨(yd b).length - 2,by rw [hV,hs3];omega⟩
 have hmb:(yd b).length=m+2:=by rw [hV,hs3] at hm;omega
 have e15:(yd V).length=(m+2):=by exact hm
 rw [e15]
 refine za<|e_mv rfl<|e_p (zR ye rfl)<|e_p (zd rfl)<|zi<|ze<|zh<|za<|e_mv rfl<|zKa rfl rfl (zba (enc:=fun z:Int=>[.int .u32 z]) (ok:=InK .u32) (h1:=fun _=>rfl) (h2:=fun _=>rfl) (k:=1) ye inf121 rfl dd dd dd (.c (x:=0) rfl rfl (fun _ _=>by exact zI.2 om) .n)) (fun b16 _=> ?_)
 refine zka 0 rfl .z<|zQa 2 rfl rfl rfl (zua 0 rfl ye inf121 dd rfl rfl (by first|rfl|assumption|(simp;done)|omega) rfl (by first|rfl|assumption|(simp;done)|omega) om om) (fun _=>(.s (.s .z))) ?_
 rintro ⟨p17,c18⟩ -
 dsimp only [aq,nq,cq]
 refine e_p (zd rfl)<|zi<|ze<|zh<|zh<|za<|e_mv rfl<|e_p (zR ye rfl)<|e_mv rfl<|e_p (zR ye rfl)<|e_p (zWa rfl rfl)<|zi<|ze<|zJ rfl (fun h19=> ?_) (fun h19=> ?_)
 ·
  exact absurd ‹_› om
 ·
  refine zC<|ze<|zh ?_
  obtain ⟨M,hM⟩:∃z,z=((yd A).length)+1:=⟨_,rfl⟩
  rw [← hM]
  refine za<|e_mv rfl<|e_p (zR ye rfl)<|e_mv rfl<|e_p (zna (z:=(((M - (m+2)):Nat):Int)) rfl rfl (w64 om))<|zKa rfl rfl (zyb (r:=rI .u32) (k:=(M - (m+2))) (x0:=0) (γ0:=()) ye inf121 rfl rfl rfl rfl om om rfl (fun g _=>by exact zI.2 dd) dd) (fun b20 _=> ?_)
  refine e_p (zd rfl)<|zi<|ze<|zh<|zh ?_
  have hMl:m+3≤M:=by omega
  have hLg:yU M (m+2) ((A:Nat):Int) ((V:Nat):Int) (M - (m+2)) (yd A++[0]) []:=yU.start (yR (yp A) dd dd) (by simp [hM]) (by rw [Big.valL_snoc,yx];simp) hm om (by rw [Big.valL_snoc,yx,hM,Nat.add_sub_cancel];simpa using Big.digs_lt A) om
  refine za<|e_mv rfl<|e_p (zR ye rfl)<|e_mv rfl<|e_p (zna (z:=(((M:Nat):Int) - (((m+2):Nat):Int))) rfl rfl (w64 om))<|e_p (zna (z:=((((M:Nat):Int) - (((m+2):Nat):Int)) - 1)) rfl rfl (w64 om))<|e_p (zd rfl)<|zi<|ze<|zE<|zra (X:=Nat×(List Int)×(List Int)) (fun x:Nat×(List Int)×(List Int)=>yU M (m+2) ((A:Nat):Int) ((V:Nat):Int) x.1 x.2.1 x.2.2) (fun x=>[(10,ya yb (((x.1:Nat):Int) - 1)),(4,.slice (some ⟨b20,0,none⟩) (M - (m+2)) (M - (m+2))),(7,.slice p17 M c18),(9,ya yb (((m+2):Nat):Int)),(8,.slice p313 (m+2) c314),(6,.int .u32 ((s:Nat):Int)),(5,.slice none 0 0)]) (fun x=>[rowA 121 (rI .u32) (some ⟨b20,0,none⟩) (M - (m+2)) (List.replicate x.1 0++x.2.2),rowA 121 (rI .u32) p17 c18 (x.2.1)]) (fun x=>[slF (rI .u32) (some ⟨b16,0,none⟩) 1 ([0]),slF (rI .u32) p313 c314 (yd V),slF (rI .u32) (some ⟨b10,0,none⟩) 1 (yd s),slF (rI .u32) (some ⟨b5,0,none⟩) 1 (yd s),atF b1 o2 [.int .u32 ((yd b).getD ((yd b).length - 1) 0)],slF (rI .u32) p1 c1 (yd a),slF (rI .u32) p2 c2 (yd b)]) (fun x:Nat×(List Int)×(List Int)=>x.1) ((M - (m+2)),(yd A++[0]),([]:List Int)) (show yU M (m+2) ((A:Nat):Int) ((V:Nat):Int) (M - (m+2)) (yd A++[0]) ([]:List Int) from by exact hLg) ((.e rfl (congrArg (Value.int .i64) om) (.of rfl)):SubM _ _) (ho:=((.e (i:=0) rfl (by simp) (.e (i:=2) rfl (by simp) .n)):PickO _ _ _)) ((.of [0,1,2,3,4,5,6] rfl):SelR _ _ _) ?_
  rintro ⟨jj,u,qs⟩ hI
  replace hI:yU M (m+2) ((A:Nat):Int) ((V:Nat):Int) jj u qs:=hI
  try dsimp only
  refine zh<|zh<|za<|e_mv rfl<|e_p (zNa rfl rfl)<|zi<|ze<|zJ rfl (fun hj=> ?_) (fun hj=> ?_)
  ·
   obtain ⟨j,rfl⟩:∃j,jj=j+1:=⟨jj - 1,by omega⟩
   have e21:(((((j+1):Nat):Int) - 1):Int)=((j:Nat):Int):=by omega
   rw [e21]
   have hjM:=hI.jle
   have hul:=hI.ul
   have hT:=hI.tp hm
   have hu2:=hT.a2
   have hu1:=hT.a1
   have hu0:=hT.a0
   have hvt1:=hT.vt1
   have hvt2:=hT.vt2
   have hvs0:=hT.vs0
   have hvs1:=hT.vs1
   have hgst:=hT.start
   have hgl0:=Big.Gs.le hT hgst
   have hg00:=hgst.g0
   have hg01:=hgst.r0
   have hrlt:=Int.emod_lt_of_pos ((u.getD (j+(m+2)) 0)*1000000000+(u.getD (j+(m+1)) 0)) (show 0<((yd V).getD (m+1) 0) by omega)
   refine zC<|ze<|zh<|zE<|zh<|zY (OW:=[]) (O:=[rowA 121 (rI .u32) (some ⟨b20,0,none⟩) (M - (m+2)) (List.replicate (j+1) 0++qs),rowA 121 (rI .u32) p17 c18 u]) 100000 mixed (.then (.block (.then (.then (.block (.then .ret)))))) kr<|e_dm 0 rfl rfl rfl<|e_dm 1 rfl rfl rfl<|e_dm 2 rfl rfl rfl<|e_pv 3 rfl rfl (zO (z:=(((j+(m+2)):Nat):Int)) rfl rfl (w64 om))<|e_dm 7 rfl rfl rfl<|e_dm 8 rfl rfl rfl<|e_dm 9 rfl rfl rfl<|e_pv 10 rfl rfl (zO (z:=(((j+(m+2)):Nat):Int)) rfl rfl (w64 om))<|e_pv 11 rfl rfl (zna (z:=(((j+(m+1)):Nat):Int)) rfl rfl (w64 om))<|e_u 12 rfl rfl (zsa 1 (j+(m+1)) rfl ye sz121 rfl (by first|rfl|assumption|(simp;done)|omega) rfl rfl om)<|d_vl 13 rfl rfl kr kr rfl rfl (zpa 1 (j+(m+1)) rfl ty121 rfl rfl (gD (d:=0) om) rfl) (fun _ hok22=> ?_)
   replace hok22:=zI.1 hok22
   refine e_pv 14 rfl rfl (zN (z:=(u.getD (j+(m+1)) 0)) rfl (by rw [yh];rfl) yi (wu64 om))<|e_one 4 (zUf 1 rfl rfl rfl rfl rfl (.c rfl (.c rfl .n)) ce147 (zHe (p:=p17) (n:=M) (cap:=c18) (l:=u) (i:=(j+(m+2))) (hn:=cbb) (hi:=cbb)) (.c (j:=0) rfl .n) ?_)
   refine e_pv 5 rfl rfl (zN (z:=u.getD (j+(m+2)) 0) rfl (by rw [yh];rfl) yi (wu64 om))<|e_pv 6 rfl rfl (zEa (z:=(u.getD (j+(m+2)) 0*1000000000)) rfl rfl (wu64 om))<|e_pv 15 rfl rfl (zO (z:=((u.getD (j+(m+2)) 0*1000000000)+(u.getD (j+(m+1)) 0))) rfl rfl (wu64 om))<|e_pv 16 rfl rfl (zd rfl)<|zW kr<|ze<|zh<|zY (OW:=[]) (O:=[rowA 121 (rI .u32) (some ⟨b20,0,none⟩) (M - (m+2)) (List.replicate (j+1) 0++qs),rowA 121 (rI .u32) p17 c18 u]) 100000 mixed (.then (.block (.then (.then (.block (.then .ret)))))) kr<|e_dm 0 rfl rfl rfl<|e_dm 1 rfl rfl rfl<|e_dm 2 rfl rfl rfl<|e_pv 3 rfl rfl (zna (z:=(((m+1):Nat):Int)) rfl rfl (w64 om))<|zga (x0:=((yd V).getD (m+1) 0)) 4 rfl rfl kr kr 1 (m+1) rfl ye sz121 rfl rfl rfl (by first|rfl|assumption|(simp;done)|omega) rfl rfl (gD (d:=0) om) (fun b23 o24 hok25=> ?_)
   replace hok25:=zI.1 hok25
   refine e_u 5 rfl rfl (zB (j:=0) 0 ty121 rfl rfl rfl rfl)<|e_pv 6 rfl rfl (zN (z:=((yd V).getD (m+1) 0)) rfl (by rw [yh];rfl) yi (wu64 om))<|e_pv 7 rfl rfl (zmb (z:=(((u.getD (j+(m+2)) 0*1000000000)+(u.getD (j+(m+1)) 0)) / ((yd V).getD (m+1) 0))) rfl rfl om (by rw [quoN (z:=(((u.getD (j+(m+2)) 0*1000000000)+(u.getD (j+(m+1)) 0)) / ((yd V).getD (m+1) 0))) om om];exact wu64 om))<|e_dm 8 rfl rfl rfl<|e_dm 9 rfl rfl rfl<|e_dm 10 rfl rfl rfl<|e_pv 11 rfl rfl (zna (z:=(((m+1):Nat):Int)) rfl rfl (w64 om))<|zga (x0:=((yd V).getD (m+1) 0)) 12 rfl rfl kr kr 2 (m+1) rfl ye sz121 rfl rfl rfl (by first|rfl|assumption|(simp;done)|omega) rfl rfl (gD (d:=0) om) (fun b26 o27 hok28=> ?_)
   replace hok28:=zI.1 hok28
   refine e_u 13 rfl rfl (zB (j:=0) 0 ty121 rfl rfl rfl rfl)<|e_pv 14 rfl rfl (zN (z:=((yd V).getD (m+1) 0)) rfl (by rw [yh];rfl) yi (wu64 om))<|e_pv 15 rfl rfl (zza (z:=(((u.getD (j+(m+2)) 0*1000000000)+(u.getD (j+(m+1)) 0))%((yd V).getD (m+1) 0))) rfl rfl om (remN om om))<|e_pv 16 rfl rfl (zd rfl)<|e_pv 17 rfl rfl (zd rfl)<|zW kr<|ze<|zGa (X:=Int) (fun x=>(0≤x∧x<1000000000)∧(yk (u.drop j))<(x+1)*(V:Int)∧x*(V:Int)<(yk (u.drop j))+(V:Int)) (fun x=>[(12,.int .u64 x),(10,ya yb ((j:Nat):Int)),(4,.slice (some ⟨b20,0,none⟩) (M - (m+2)) (M - (m+2))),(7,.slice p17 M c18),(9,ya yb (((m+2):Nat):Int)),(8,.slice p313 (m+2) c314),(6,.int .u32 ((s:Nat):Int)),(5,.slice none 0 0)]) (fun x=>[rowA 121 (rI .u32) (some ⟨b20,0,none⟩) (M - (m+2)) (List.replicate (j+1) 0++qs),rowA 121 (rI .u32) p17 c18 u]) (fun x=>[atF b26 o27 [.int .u32 ((yd V).getD (m+1) 0)],atF b23 o24 [.int .u32 ((yd V).getD (m+1) 0)],slF (rI .u32) (some ⟨b16,0,none⟩) 1 ([0]),slF (rI .u32) p313 c314 (yd V),slF (rI .u32) (some ⟨b10,0,none⟩) 1 (yd s),slF (rI .u32) (some ⟨b5,0,none⟩) 1 (yd s),atF b1 o2 [.int .u32 ((yd b).getD ((yd b).length - 1) 0)],slF (rI .u32) p1 c1 (yd a),slF (rI .u32) p2 c2 (yd b)]) ?_ ?_
   ·
    refine zE<|zra (X:=Int×Int) (fun x:Int×Int=>Big.Gs (yk (u.drop j)) (V:Int) ((yd V).getD (m+1) 0) ((u.getD (j+(m+2)) 0)*1000000000+(u.getD (j+(m+1)) 0)) x.1 x.2∧x.2<1000000000) (fun x=>[(13,.int .u64 (x.2)),(12,.int .u64 (x.1)),(10,ya yb ((j:Nat):Int)),(4,.slice (some ⟨b20,0,none⟩) (M - (m+2)) (M - (m+2))),(7,.slice p17 M c18),(9,ya yb (((m+2):Nat):Int)),(8,.slice p313 (m+2) c314),(6,.int .u32 ((s:Nat):Int)),(5,.slice none 0 0)]) (fun x=>[rowA 121 (rI .u32) (some ⟨b20,0,none⟩) (M - (m+2)) (List.replicate (j+1) 0++qs),rowA 121 (rI .u32) p17 c18 u]) (fun x=>[atF b26 o27 [.int .u32 ((yd V).getD (m+1) 0)],atF b23 o24 [.int .u32 ((yd V).getD (m+1) 0)],slF (rI .u32) (some ⟨b16,0,none⟩) 1 ([0]),slF (rI .u32) p313 c314 (yd V),slF (rI .u32) (some ⟨b10,0,none⟩) 1 (yd s),slF (rI .u32) (some ⟨b5,0,none⟩) 1 (yd s),atF b1 o2 [.int .u32 ((yd b).getD ((yd b).length - 1) 0)],slF (rI .u32) p1 c1 (yd a),slF (rI .u32) p2 c2 (yd b)]) (fun x:Int×Int=>x.1.toNat) ((((u.getD (j+(m+2)) 0*1000000000)+(u.getD (j+(m+1)) 0)) / ((yd V).getD (m+1) 0)),(((u.getD (j+(m+2)) 0*1000000000)+(u.getD (j+(m+1)) 0))%((yd V).getD (m+1) 0))) (show Big.Gs (yk (u.drop j)) (V:Int) ((yd V).getD (m+1) 0) ((u.getD (j+(m+2)) 0)*1000000000+(u.getD (j+(m+1)) 0)) (((u.getD (j+(m+2)) 0*1000000000)+(u.getD (j+(m+1)) 0)) / ((yd V).getD (m+1) 0)) (((u.getD (j+(m+2)) 0*1000000000)+(u.getD (j+(m+1)) 0))%((yd V).getD (m+1) 0))∧(((u.getD (j+(m+2)) 0*1000000000)+(u.getD (j+(m+1)) 0))%((yd V).getD (m+1) 0))<1000000000 from by exact ⟨hgst,by omega⟩) (mR rfl) (ho:=((.of [0,0] rfl):PickO _ _ _)) ((.of [0,1,2,3,4,5,6,7,8] rfl):SelR _ _ _) ?_
    rintro ⟨g,r⟩ hG
    replace hG:Big.Gs (yk (u.drop j)) (V:Int) ((yd V).getD (m+1) 0) ((u.getD (j+(m+2)) 0)*1000000000+(u.getD (j+(m+1)) 0)) g r∧r<1000000000:=hG
    try dsimp only
    obtain ⟨hGs,hr9⟩:=hG
    have hgl:=Big.Gs.le hT hGs
    have hg0:=hGs.g0
    have hr0:=hGs.r0
    have hgm:=Big.mul_lim3 hg0 hgl.1 hvs0 hvs1
    refine zh<|zGa (X:=Unit) (fun x=>True) (fun x=>[(123,.bool (decide ((1000000000≤g)∨(((r*1000000000)+(u.getD (j+m) 0))<(g*((yd V).getD m 0)))))),(13,.int .u64 r),(12,.int .u64 g),(10,ya yb ((j:Nat):Int)),(4,.slice (some ⟨b20,0,none⟩) (M - (m+2)) (M - (m+2))),(7,.slice p17 M c18),(9,ya yb (((m+2):Nat):Int)),(8,.slice p313 (m+2) c314),(6,.int .u32 ((s:Nat):Int)),(5,.slice none 0 0)]) (fun x=>[rowA 121 (rI .u32) (some ⟨b20,0,none⟩) (M - (m+2)) (List.replicate (j+1) 0++qs),rowA 121 (rI .u32) p17 c18 u]) (fun x=>[atF b26 o27 [.int .u32 ((yd V).getD (m+1) 0)],atF b23 o24 [.int .u32 ((yd V).getD (m+1) 0)],slF (rI .u32) (some ⟨b16,0,none⟩) 1 ([0]),slF (rI .u32) p313 c314 (yd V),slF (rI .u32) (some ⟨b10,0,none⟩) 1 (yd s),slF (rI .u32) (some ⟨b5,0,none⟩) 1 (yd s),atF b1 o2 [.int .u32 ((yd b).getD ((yd b).length - 1) 0)],slF (rI .u32) p1 c1 (yd a),slF (rI .u32) p2 c2 (yd b)]) ?_ ?_
    ·
     refine zY (OW:=[]) (O:=[rowA 121 (rI .u32) (some ⟨b20,0,none⟩) (M - (m+2)) (List.replicate (j+1) 0++qs),rowA 121 (rI .u32) p17 c18 u]) 100000 mixed (.then (.then (.then (.block (.then (.block (.then (.then (.block (.then .ret)))))))))) kr<|e_dm 0 rfl rfl rfl<|e_pv 1 rfl rfl (zNa rfl rfl)<|zGb 2 rfl rfl kr kr rfl rfl (zaa rfl) (fun hge=> ?_) (fun hge=> ?_)
     ·
      refine e_skip 3 rfl rfl<|e_skip 4 rfl rfl<|e_skip 5 rfl rfl<|e_skip 6 rfl rfl<|e_skip 7 rfl rfl<|e_skip 8 rfl rfl<|e_skip 9 rfl rfl<|e_skip 10 rfl rfl<|e_skip 11 rfl rfl<|e_skip 12 rfl rfl<|e_skip 13 rfl rfl<|e_skip 14 rfl rfl<|e_skip 15 rfl rfl<|e_skip 16 rfl rfl<|e_skip 17 rfl rfl<|e_skip 18 rfl rfl<|e_skip 19 rfl rfl<|e_skip 20 rfl rfl<|e_skip 21 rfl rfl<|e_skip 22 rfl rfl<|e_pv 23 rfl rfl (zp rfl rfl)<|zW kr ?_
      exact zha () tt9 ((.e rfl (congrArg Value.bool (by exact (decide_eq_true (.inl hge)).symm)) (.of rfl)):SubM _ _) (ho:=((.of [0,0] rfl):PickO _ _ _)) ((.of [0,1,2,3,4,5,6,7,8] rfl):SelR _ _ _)
     ·
      refine e_dm 3 rfl rfl rfl<|e_dm 4 rfl rfl rfl<|e_dm 5 rfl rfl rfl<|e_pv 6 rfl rfl (zna (z:=((m:Nat):Int)) rfl rfl (w64 om))<|zga (x0:=((yd V).getD m 0)) 7 rfl rfl kr kr 3 m rfl ye sz121 rfl rfl rfl (by first|rfl|assumption|(simp;done)|omega) rfl rfl (gD (d:=0) om) (fun b29 o30 hok31=> ?_)
      replace hok31:=zI.1 hok31
      refine e_u 8 rfl rfl (zB (j:=0) 0 ty121 rfl rfl rfl rfl)<|e_pv 9 rfl rfl (zN (z:=((yd V).getD m 0)) rfl (by rw [yh];rfl) yi (wu64 om))<|e_pv 10 rfl rfl (zEa (z:=(g*((yd V).getD m 0))) rfl rfl (wu64 om))<|e_dm 11 rfl rfl rfl<|e_pv 12 rfl rfl (zEa (z:=(r*1000000000)) rfl rfl (wu64 om))<|e_dm 13 rfl rfl rfl<|e_dm 14 rfl rfl rfl<|e_dm 15 rfl rfl rfl<|e_pv 16 rfl rfl (zO (z:=(((j+(m+2)):Nat):Int)) rfl rfl (w64 om))<|e_pv 17 rfl rfl (zna (z:=(((j+m):Nat):Int)) rfl rfl (w64 om))<|e_u 18 rfl rfl (zsa 1 (j+m) rfl ye sz121 rfl (by first|rfl|assumption|(simp;done)|omega) rfl rfl om)<|d_vl 19 rfl rfl kr kr rfl rfl (zpa 1 (j+m) rfl ty121 rfl rfl (gD (d:=0) om) rfl) (fun _ hok32=> ?_)
      replace hok32:=zI.1 hok32
      refine e_pv 20 rfl rfl (zN (z:=(u.getD (j+m) 0)) rfl (by rw [yh];rfl) yi (wu64 om))<|e_pv 21 rfl rfl (zO (z:=((r*1000000000)+(u.getD (j+m) 0))) rfl rfl (wu64 om))<|e_pv 22 rfl rfl (zDa rfl rfl)<|e_pv 23 rfl rfl (zp rfl rfl)<|zW kr ?_
      exact zha () tt9 ((.e rfl (congrArg Value.bool (by exact decide_eq_decide.2 ⟨fun h=> .inr h,fun h=>h.resolve_left hge⟩)) (.of rfl)):SubM _ _) (ho:=((.of [0,0] rfl):PickO _ _ _)) ((.of [1,2,3,4,5,6,7,8,9] rfl):SelR _ _ _)
    ·
     rintro ⟨⟩ -
     try dsimp only
     refine zJ rfl (fun hgs=> ?_) (fun hgs=> ?_)
     ·
      have hst:=hGs.step hT hgs
      have hst1:=hst.1
      refine zC<|ze<|zE<|zh<|za<|e_mv rfl<|e_p (zna (z:=(g - 1)) rfl rfl (wu64 om))<|e_p (zd rfl)<|zi<|ze<|zh<|za<|e_mv rfl<|e_mv rfl<|e_mv rfl<|e_p (zna (z:=(((m+1):Nat):Int)) rfl rfl (w64 om))<|zX (x0:=((yd V).getD (m+1) 0)) 3 (m+1) rfl ye sz121 rfl rfl rfl (by first|rfl|assumption|(simp;done)|omega) rfl rfl (gD (d:=0) om) (fun b33 o34 hok35=> ?_)
      replace hok35:=zI.1 hok35
      refine e_ru (zB (j:=0) 0 ty121 rfl rfl rfl rfl)<|e_p (zN (z:=((yd V).getD (m+1) 0)) rfl (by rw [yh];rfl) yi (wu64 om))<|e_p (zO (z:=(r+((yd V).getD (m+1) 0))) rfl rfl (wu64 om))<|e_p (zd rfl)<|zi<|ze<|zh<|za<|e_mv rfl<|e_p (zNa rfl rfl)<|zi<|ze<|zJ rfl (fun hbr=> ?_) (fun hbr=> ?_)
      ·
       refine zqa<|zBd rfl<|zk<|zD ?_
       exact zha (g - 1) (show (0≤(g - 1)∧(g - 1)<1000000000)∧(yk (u.drop j))<((g - 1)+1)*(V:Int)∧(g - 1)*(V:Int)<(yk (u.drop j))+(V:Int) from by have hs9:=(hGs.step hT hgs).2;have hb9:=Big.Gs.broke hT hs9 hbr;exact ⟨⟨hs9.g0,hb9.1⟩,hs9.up,Big.Gs.fin hT hs9 hb9.1 hb9.2⟩) (mR rfl) (ho:=((.of [0,0] rfl):PickO _ _ _)) ((.of [1,2,3,4,5,6,7,8,9] rfl):SelR _ _ _)
      ·
       refine zC<|zT<|zla ((g - 1),(r+((yd V).getD (m+1) 0))) (show Big.Gs (yk (u.drop j)) (V:Int) ((yd V).getD (m+1) 0) ((u.getD (j+(m+2)) 0)*1000000000+(u.getD (j+(m+1)) 0)) (g - 1) (r+((yd V).getD (m+1) 0))∧(r+((yd V).getD (m+1) 0))<1000000000 from by exact ⟨(hGs.step hT hgs).2,by omega⟩) (by have:=(hGs.step hT hgs).1;show (g - 1).toNat<g.toNat;omega) (mR rfl) (ho:=((.of [0,0] rfl):PickO _ _ _)) ((.of [1,2,3,4,5,6,7,8,9] rfl):SelR _ _ _)
     ·
      refine zqa<|zk<|zk<|zD ?_
      exact zha g (show (0≤g∧g<1000000000)∧(yk (u.drop j))<(g+1)*(V:Int)∧g*(V:Int)<(yk (u.drop j))+(V:Int) from by exact ⟨⟨hg0,by omega⟩,hGs.up,Big.Gs.fin hT hGs om om⟩) (mR rfl) (ho:=((.of [0,0] rfl):PickO _ _ _)) ((.of [0,1,2,3,4,5,6,7,8] rfl):SelR _ _ _)
   ·
    rintro g hC
    replace hC:(0≤g∧g<1000000000)∧(yk (u.drop j))<(g+1)*(V:Int)∧g*(V:Int)<(yk (u.drop j))+(V:Int):=hC
    try dsimp only
    obtain ⟨⟨hg0,hg1⟩,hup,hdn⟩:=hC
    refine zh<|za<|e_p (zd rfl)<|e_p (zd rfl)<|zi<|ze<|zh<|zh<|za<|e_mv rfl<|e_mv rfl<|zi<|ze<|zE<|zra (X:=Nat×(List Int)×Int×Int) (fun x:Nat×(List Int)×Int×Int=>x.1≤m+2∧Big.MsI u j g (yd V) x.1 x.2.1 x.2.2.1 x.2.2.2) (fun x=>[(15,.int .u64 (x.2.2.2)),(14,ya yb (x.2.2.1)),(137,ya yb ((x.1:Nat):Int)),(136,ya yb (((m+2):Nat):Int)),(12,.int .u64 g),(10,ya yb ((j:Nat):Int)),(4,.slice (some ⟨b20,0,none⟩) (M - (m+2)) (M - (m+2))),(7,.slice p17 M c18),(9,ya yb (((m+2):Nat):Int)),(8,.slice p313 (m+2) c314),(6,.int .u32 ((s:Nat):Int)),(5,.slice none 0 0)]) (fun x=>[rowA 121 (rI .u32) (some ⟨b20,0,none⟩) (M - (m+2)) (List.replicate (j+1) 0++qs),rowA 121 (rI .u32) p17 c18 (x.2.1)]) (fun x=>[atF b26 o27 [.int .u32 ((yd V).getD (m+1) 0)],atF b23 o24 [.int .u32 ((yd V).getD (m+1) 0)],slF (rI .u32) (some ⟨b16,0,none⟩) 1 ([0]),slF (rI .u32) p313 c314 (yd V),slF (rI .u32) (some ⟨b10,0,none⟩) 1 (yd s),slF (rI .u32) (some ⟨b5,0,none⟩) 1 (yd s),atF b1 o2 [.int .u32 ((yd b).getD ((yd b).length - 1) 0)],slF (rI .u32) p1 c1 (yd a),slF (rI .u32) p2 c2 (yd b)]) (fun x:Nat×(List Int)×Int×Int=>(m+2) - x.1) (0,u,0,0) (show 0≤m+2∧Big.MsI u j g (yd V) 0 u 0 0 from by exact ⟨Nat.zero_le _,Big.MsI.start hI.uo j g _⟩) ((.c rfl (.c rfl (.e rfl cgs (.of rfl)))):SubM _ _) (ho:=((.of [0,0] rfl):PickO _ _ _)) ((.of [0,1,2,3,4,5,6,7,8] rfl):SelR _ _ _) ?_
    rintro ⟨i,w,bo,ca⟩ hMM
    replace hMM:i≤m+2∧Big.MsI u j g (yd V) i w bo ca:=hMM
    try dsimp only
    obtain ⟨hile,hM2⟩:=hMM
    have hb0:=hM2.b0
    have hb1:=hM2.b1
    have hc0:=hM2.c0
    have hc1:=hM2.c1
    have hwl:=hM2.len
    have hwo:=yq hM2.ok (j+i)
    have hvi:=yq (yp V) i
    have hca:=Big.ms_carry ⟨hg0,hg1⟩ hvi ⟨hc0,hc1⟩
    have hgx:=Int.mul_nonneg hg0 hvi.1
    refine zh<|za<|e_p (zda rfl rfl)<|zi<|ze<|zh<|zJ rfl (fun hi=> ?_) (fun hi=> ?_)
    ·
     refine zC<|ze<|zh<|zE<|zh<|za<|e_mv rfl<|e_p (zd rfl)<|zi<|ze<|zh<|za<|e_mv rfl<|e_mv rfl<|e_mv rfl<|zX (x0:=((yd V).getD i 0)) 3 i rfl ye sz121 rfl rfl rfl (by first|rfl|assumption|(simp;done)|omega) rfl rfl (gD (d:=0) om) (fun b36 o37 hok38=> ?_)
     replace hok38:=zI.1 hok38
     refine e_ru (zB (j:=0) 0 ty121 rfl rfl rfl rfl)<|e_p (zN (z:=((yd V).getD i 0)) rfl (by rw [yh];rfl) yi (wu64 om))<|e_p (zEa (z:=(g*((yd V).getD i 0))) rfl rfl (wu64 om))<|e_mv rfl<|e_p (zO (z:=((g*((yd V).getD i 0))+ca)) rfl rfl (wu64 om))<|e_p (zd rfl)<|zi<|ze<|zh<|za<|e_mv rfl<|e_p (zmb (z:=(((g*((yd V).getD i 0))+ca) / 1000000000)) rfl rfl om (by rw [quoN (z:=(((g*((yd V).getD i 0))+ca) / 1000000000)) om om];exact wu64 om))<|e_p (zd rfl)<|zi<|ze<|zh<|za<|e_mv rfl<|e_mv rfl<|e_mv rfl<|e_p (zO (z:=(((j+i):Nat):Int)) rfl rfl (w64 om))<|e_ru (zsa 1 (j+i) rfl ye sz121 rfl (by first|rfl|assumption|(simp;done)|omega) rfl rfl om)<|r_vl rfl rfl (zpa 1 (j+i) rfl ty121 rfl rfl (gD (d:=0) om) rfl) (fun _ hok39=> ?_)
     replace hok39:=zI.1 hok39
     refine e_p (zN (z:=(w.getD (j+i) 0)) rfl (by rw [yh];rfl) yw (w64 om))<|e_mv rfl<|e_p (zna (z:=((w.getD (j+i) 0) - bo)) rfl rfl (w64 om))<|e_mv rfl<|e_p (zza (z:=(((g*((yd V).getD i 0))+ca)%1000000000)) rfl rfl om (remN om om))<|e_p (zN (z:=(((g*((yd V).getD i 0))+ca)%1000000000)) rfl (by rw [yi];rfl) yw (w64 om))<|e_p (zna (z:=(((w.getD (j+i) 0) - bo) - (((g*((yd V).getD i 0))+ca)%1000000000))) rfl rfl (w64 om))<|e_p (zd rfl)<|zi<|ze<|zh<|za<|e_p (zd rfl)<|zi<|ze<|zh<|zh<|za<|e_mv rfl<|e_p (zda rfl rfl)<|zi<|ze<|zJ rfl (fun hneg=> ?_) (fun hneg=> ?_)
     ·
      refine za<|e_mv rfl<|e_p (zO (z:=((((w.getD (j+i) 0) - bo) - (((g*((yd V).getD i 0))+ca)%1000000000))+1000000000)) rfl rfl (w64 om))<|e_p (zd rfl)<|e_p (zd rfl)<|zi<|ze<|za<|e_mv rfl<|e_mv rfl<|e_mv rfl<|e_p (zO (z:=(((j+i):Nat):Int)) rfl rfl (w64 om))<|e_mv rfl<|e_p (zN (z:=((((w.getD (j+i) 0) - bo) - (((g*((yd V).getD i 0))+ca)%1000000000))+1000000000)) rfl (by rw [yw];rfl) yh (wu32 om))<|e_ru (zsa 1 (j+i) rfl ye sz121 rfl (by first|rfl|assumption|(simp;done)|omega) rfl rfl om)<|zQa 1 rfl rfl rfl (zia (j:=(j+i)) (x0:=((((w.getD (j+i) 0) - bo) - (((g*((yd V).getD i 0))+ca)%1000000000))+1000000000)) (γ0:=()) rfl rfl (by first|omega|(rw [List.length_map];omega)|(simp only [List.length_set];omega)|(simp;done)|(simp;omega)) rfl rfl sz121 (fun _ _=>by exact zI.2 om)) (fun _=>(.s .z)) (fun _ _=> ?_)
      refine zi<|zT<|ze<|za<|e_p (zO (z:=(((i+1):Nat):Int)) rfl rfl (w64 om))<|e_mv rfl<|zi<|zla ((i+1),(w.set (j+i) ((((w.getD (j+i) 0) - bo) - (((g*((yd V).getD i 0))+ca)%1000000000))+1000000000)),1,(((g*((yd V).getD i 0))+ca) / 1000000000)) (show (i+1)≤m+2∧Big.MsI u j g (yd V) (i+1) (w.set (j+i) ((((w.getD (j+i) 0) - bo) - (((g*((yd V).getD i 0))+ca)%1000000000))+1000000000)) 1 (((g*((yd V).getD i 0))+ca) / 1000000000) from by exact ⟨by omega,hM2.step ⟨hg0,hg1⟩ (yp V) om om ⟨by omega,by omega⟩ ⟨by decide,by decide⟩⟩) (by show (m+2) - (i+1)<(m+2) - i;omega) (mR rfl) (ho:=((.of [0,0] rfl):PickO _ _ _)) ((.of [1,2,3,4,5,6,7,8,9] rfl):SelR _ _ _)
     ·
      refine zC<|ze<|za<|e_mv rfl<|e_mv rfl<|e_mv rfl<|e_p (zO (z:=(((j+i):Nat):Int)) rfl rfl (w64 om))<|e_mv rfl<|e_p (zN (z:=(((w.getD (j+i) 0) - bo) - (((g*((yd V).getD i 0))+ca)%1000000000))) rfl (by rw [yw];rfl) yh (wu32 om))<|e_ru (zsa 1 (j+i) rfl ye sz121 rfl (by first|rfl|assumption|(simp;done)|omega) rfl rfl om)<|zQa 1 rfl rfl rfl (zia (j:=(j+i)) (x0:=(((w.getD (j+i) 0) - bo) - (((g*((yd V).getD i 0))+ca)%1000000000))) (γ0:=()) rfl rfl (by first|omega|(rw [List.length_map];omega)|(simp only [List.length_set];omega)|(simp;done)|(simp;omega)) rfl rfl sz121 (fun _ _=>by exact zI.2 om)) (fun _=>(.s .z)) (fun _ _=> ?_)
      refine zi<|zT<|ze<|za<|e_p (zO (z:=(((i+1):Nat):Int)) rfl rfl (w64 om))<|e_mv rfl<|zi<|zla ((i+1),(w.set (j+i) (((w.getD (j+i) 0) - bo) - (((g*((yd V).getD i 0))+ca)%1000000000))),0,(((g*((yd V).getD i 0))+ca) / 1000000000)) (show (i+1)≤m+2∧Big.MsI u j g (yd V) (i+1) (w.set (j+i) (((w.getD (j+i) 0) - bo) - (((g*((yd V).getD i 0))+ca)%1000000000))) 0 (((g*((yd V).getD i 0))+ca) / 1000000000) from by exact ⟨by omega,hM2.step ⟨hg0,hg1⟩ (yp V) om om ⟨by omega,by omega⟩ ⟨by decide,by decide⟩⟩) (by show (m+2) - (i+1)<(m+2) - i;omega) (mR rfl) (ho:=((.of [0,0] rfl):PickO _ _ _)) ((.of [1,2,3,4,5,6,7,8,9] rfl):SelR _ _ _)
    ·
     have hM3:Big.MsI u j g (yd V) (m+2) w bo ca:=by have h8:i=m+2:=om;exact h8 ▸ hM2
     have hwo2:=yq hM2.ok (j+(m+2))
     refine zqa<|zk<|zk<|zD<|ze<|zh<|za<|e_mv rfl<|e_mv rfl<|e_mv rfl<|e_p (zO (z:=(((j+(m+2)):Nat):Int)) rfl rfl (w64 om))<|e_ru (zsa 1 (j+(m+2)) rfl ye sz121 rfl (by first|rfl|assumption|(simp;done)|omega) rfl rfl om)<|r_vl rfl rfl (zpa 1 (j+(m+2)) rfl ty121 rfl rfl (gD (d:=0) om) rfl) (fun _ hok40=> ?_)
     replace hok40:=zI.1 hok40
     refine e_p (zN (z:=(w.getD (j+(m+2)) 0)) rfl (by rw [yh];rfl) yw (w64 om))<|e_mv rfl<|e_p (zna (z:=((w.getD (j+(m+2)) 0) - bo)) rfl rfl (w64 om))<|e_mv rfl<|e_p (zN (z:=ca) rfl (by rw [yi];rfl) yw (w64 om))<|e_p (zna (z:=(((w.getD (j+(m+2)) 0) - bo) - ca)) rfl rfl (w64 om))<|e_p (zd rfl)<|zi<|ze<|zh<|zh<|za<|e_mv rfl<|e_p (zda rfl rfl)<|zi<|ze<|zJ rfl (fun hd=> ?_) (fun hd=> ?_)
     ·
      have hg9:=hI.neg1 hM3 hm hd
      refine zh<|za<|e_mv rfl<|e_mv rfl<|e_mv rfl<|e_p (zO (z:=(((j+(m+2)):Nat):Int)) rfl rfl (w64 om))<|e_mv rfl<|e_p (zO (z:=((((w.getD (j+(m+2)) 0) - bo) - ca)+1000000000)) rfl rfl (w64 om))<|e_p (zN (z:=((((w.getD (j+(m+2)) 0) - bo) - ca)+1000000000)) rfl (by rw [yw];rfl) yh (wu32 om))<|e_ru (zsa 1 (j+(m+2)) rfl ye sz121 rfl (by first|rfl|assumption|(simp;done)|omega) rfl rfl om)<|zQa 1 rfl rfl rfl (zia (j:=(j+(m+2))) (x0:=((((w.getD (j+(m+2)) 0) - bo) - ca)+1000000000)) (γ0:=()) rfl rfl (by first|omega|(rw [List.length_map];omega)|(simp only [List.length_set];omega)|(simp;done)|(simp;omega)) rfl rfl sz121 (fun _ _=>by exact zI.2 om)) (fun _=>(.s .z)) (fun _ _=> ?_)
      refine zi<|ze<|zh<|za<|e_mv rfl<|e_p (zna (z:=(g - 1)) rfl rfl (wu64 om))<|e_p (zd rfl)<|zi<|ze<|zh<|za<|e_p (zd rfl)<|zi<|ze<|zh<|zh<|za<|e_mv rfl<|e_mv rfl<|zi<|ze<|zE<|zra (X:=Nat×(List Int)×Int) (fun x:Nat×(List Int)×Int=>x.1≤m+2∧Big.AbI (w.set (j+(m+2)) ((((w.getD (j+(m+2)) 0) - bo) - ca)+1000000000)) j (yd V) x.1 x.2.1 x.2.2) (fun x=>[(20,.int .u32 (x.2.2)),(201,ya yb ((x.1:Nat):Int)),(200,ya yb (((m+2):Nat):Int)),(12,.int .u64 (g - 1)),(10,ya yb ((j:Nat):Int)),(4,.slice (some ⟨b20,0,none⟩) (M - (m+2)) (M - (m+2))),(7,.slice p17 M c18),(9,ya yb (((m+2):Nat):Int)),(8,.slice p313 (m+2) c314),(6,.int .u32 ((s:Nat):Int)),(5,.slice none 0 0)]) (fun x=>[rowA 121 (rI .u32) (some ⟨b20,0,none⟩) (M - (m+2)) (List.replicate (j+1) 0++qs),rowA 121 (rI .u32) p17 c18 (x.2.1)]) (fun x=>[atF b26 o27 [.int .u32 ((yd V).getD (m+1) 0)],atF b23 o24 [.int .u32 ((yd V).getD (m+1) 0)],slF (rI .u32) (some ⟨b16,0,none⟩) 1 ([0]),slF (rI .u32) p313 c314 (yd V),slF (rI .u32) (some ⟨b10,0,none⟩) 1 (yd s),slF (rI .u32) (some ⟨b5,0,none⟩) 1 (yd s),atF b1 o2 [.int .u32 ((yd b).getD ((yd b).length - 1) 0)],slF (rI .u32) p1 c1 (yd a),slF (rI .u32) p2 c2 (yd b)]) (fun x:Nat×(List Int)×Int=>(m+2) - x.1) (0,(w.set (j+(m+2)) ((((w.getD (j+(m+2)) 0) - bo) - ca)+1000000000)),0) (show 0≤m+2∧Big.AbI (w.set (j+(m+2)) ((((w.getD (j+(m+2)) 0) - bo) - ca)+1000000000)) j (yd V) 0 (w.set (j+(m+2)) ((((w.getD (j+(m+2)) 0) - bo) - ca)+1000000000)) 0 from by exact ⟨Nat.zero_le _,Big.AbI.start (Big.okL_set hM2.ok om om) _ _⟩) ((.c rfl (.e rfl cgs (.of rfl))):SubM _ _) (ho:=((.c (i:=0) rfl (.e (i:=0) rfl cgs .n)):PickO _ _ _)) ((.of [0,1,2,3,4,5,6,7,8] rfl):SelR _ _ _) ?_
      rintro ⟨i2,xs,cc⟩ hAA
      replace hAA:i2≤m+2∧Big.AbI (w.set (j+(m+2)) ((((w.getD (j+(m+2)) 0) - bo) - ca)+1000000000)) j (yd V) i2 xs cc:=hAA
      try dsimp only
      obtain ⟨hile2,hA2⟩:=hAA
      have hk0:=hA2.c0
      have hk1:=hA2.c1
      have hxl:=hA2.len
      rw [List.length_set] at hxl
      have hxo:=yq hA2.ok (j+i2)
      have hvi2:=yq (yp V) i2
      refine zh<|za<|e_p (zda rfl rfl)<|zi<|ze<|zh<|zJ rfl (fun hi=> ?_) (fun hi=> ?_)
      ·
       refine zC<|ze<|zh<|zE<|zh<|za<|e_mv rfl<|e_p (zd rfl)<|zi<|ze<|zh<|zY (OW:=[]) (O:=[rowA 121 (rI .u32) (some ⟨b20,0,none⟩) (M - (m+2)) (List.replicate (j+1) 0++qs),rowA 121 (rI .u32) p17 c18 xs]) 100000 mixed (.then (.block (.then (.then (.block (.then (.then (.block (.then (.then (.block (.then .ret)))))))))))) kr<|e_dm 0 rfl rfl rfl<|e_dm 1 rfl rfl rfl<|e_dm 2 rfl rfl rfl<|e_pv 3 rfl rfl (zO (z:=(((j+i2):Nat):Int)) rfl rfl (w64 om))<|e_u 4 rfl rfl (zsa 1 (j+i2) rfl ye sz121 rfl (by first|rfl|assumption|(simp;done)|omega) rfl rfl om)<|d_vl 5 rfl rfl kr kr rfl rfl (zpa 1 (j+i2) rfl ty121 rfl rfl (gD (d:=0) om) rfl) (fun _ hok41=> ?_)
       replace hok41:=zI.1 hok41
       refine e_dm 6 rfl rfl rfl<|e_dm 7 rfl rfl rfl<|zga (x0:=((yd V).getD i2 0)) 8 rfl rfl kr kr 3 i2 rfl ye sz121 rfl rfl rfl (by first|rfl|assumption|(simp;done)|omega) rfl rfl (gD (d:=0) om) (fun b42 o43 hok44=> ?_)
       replace hok44:=zI.1 hok44
       refine e_u 9 rfl rfl (zB (j:=0) 0 ty121 rfl rfl rfl rfl)<|e_pv 10 rfl rfl (zO (z:=((xs.getD (j+i2) 0)+((yd V).getD i2 0))) rfl rfl (wu32 om))<|e_dm 11 rfl rfl rfl<|e_pv 12 rfl rfl (zO (z:=(((xs.getD (j+i2) 0)+((yd V).getD i2 0))+cc)) rfl rfl (wu32 om))<|e_pv 13 rfl rfl (zd rfl)<|zW kr<|ze<|zh<|za<|e_p (zd rfl)<|zi<|ze<|zh<|zh<|za<|e_mv rfl<|e_p (zNa rfl rfl)<|zi<|ze<|zJ rfl (fun hcy=> ?_) (fun hcy=> ?_)
       ·
        refine za<|e_mv rfl<|e_p (zna (z:=((((xs.getD (j+i2) 0)+((yd V).getD i2 0))+cc) - 1000000000)) rfl rfl (wu32 om))<|e_p (zd rfl)<|e_p (zd rfl)<|zi<|ze<|za<|e_mv rfl<|e_mv rfl<|e_mv rfl<|e_p (zO (z:=(((j+i2):Nat):Int)) rfl rfl (w64 om))<|e_mv rfl<|e_ru (zsa 1 (j+i2) rfl ye sz121 rfl (by first|rfl|assumption|(simp;done)|omega) rfl rfl om)<|zQa 1 rfl rfl rfl (zia (j:=(j+i2)) (x0:=((((xs.getD (j+i2) 0)+((yd V).getD i2 0))+cc) - 1000000000)) (γ0:=()) rfl rfl (by first|omega|(rw [List.length_map];omega)|(simp only [List.length_set];omega)|(simp;done)|(simp;omega)) rfl rfl sz121 (fun _ _=>by exact zI.2 om)) (fun _=>(.s .z)) (fun _ _=> ?_)
        refine zi<|zT<|ze<|za<|e_p (zO (z:=(((i2+1):Nat):Int)) rfl rfl (w64 om))<|e_mv rfl<|zi<|zla ((i2+1),(xs.set (j+i2) ((((xs.getD (j+i2) 0)+((yd V).getD i2 0))+cc) - 1000000000)),1) (show (i2+1)≤m+2∧Big.AbI (w.set (j+(m+2)) ((((w.getD (j+(m+2)) 0) - bo) - ca)+1000000000)) j (yd V) (i2+1) (xs.set (j+i2) ((((xs.getD (j+i2) 0)+((yd V).getD i2 0))+cc) - 1000000000)) 1 from by exact ⟨by omega,hA2.step (by rw [List.length_set];omega) om ⟨by omega,by omega⟩ ⟨by decide,by decide⟩⟩) (by show (m+2) - (i2+1)<(m+2) - i2;omega) (mR rfl) (ho:=((.of [0,0] rfl):PickO _ _ _)) ((.of [1,2,3,4,5,6,7,8,9] rfl):SelR _ _ _)
       ·
        refine zC<|ze<|za<|e_mv rfl<|e_mv rfl<|e_mv rfl<|e_p (zO (z:=(((j+i2):Nat):Int)) rfl rfl (w64 om))<|e_mv rfl<|e_ru (zsa 1 (j+i2) rfl ye sz121 rfl (by first|rfl|assumption|(simp;done)|omega) rfl rfl om)<|zQa 1 rfl rfl rfl (zia (j:=(j+i2)) (x0:=(((xs.getD (j+i2) 0)+((yd V).getD i2 0))+cc)) (γ0:=()) rfl rfl (by first|omega|(rw [List.length_map];omega)|(simp only [List.length_set];omega)|(simp;done)|(simp;omega)) rfl rfl sz121 (fun _ _=>by exact zI.2 om)) (fun _=>(.s .z)) (fun _ _=> ?_)
        refine zi<|zT<|ze<|za<|e_p (zO (z:=(((i2+1):Nat):Int)) rfl rfl (w64 om))<|e_mv rfl<|zi<|zla ((i2+1),(xs.set (j+i2) (((xs.getD (j+i2) 0)+((yd V).getD i2 0))+cc)),0) (show (i2+1)≤m+2∧Big.AbI (w.set (j+(m+2)) ((((w.getD (j+(m+2)) 0) - bo) - ca)+1000000000)) j (yd V) (i2+1) (xs.set (j+i2) (((xs.getD (j+i2) 0)+((yd V).getD i2 0))+cc)) 0 from by exact ⟨by omega,hA2.step (by rw [List.length_set];omega) om ⟨by omega,by omega⟩ ⟨by decide,by decide⟩⟩) (by show (m+2) - (i2+1)<(m+2) - i2;omega) (mR rfl) (ho:=((.of [0,0] rfl):PickO _ _ _)) ((.of [1,2,3,4,5,6,7,8,9] rfl):SelR _ _ _)
      ·
       have hA3:Big.AbI (w.set (j+(m+2)) ((((w.getD (j+(m+2)) 0) - bo) - ca)+1000000000)) j (yd V) (m+2) xs cc:=by have h8:i2=m+2:=om;exact h8 ▸ hA2
       have hxo2:=yq hA2.ok (j+(m+2))
       refine zqa<|zk<|zk<|zD<|ze<|za<|e_mv rfl<|e_mv rfl<|e_mv rfl<|e_p (zO (z:=(((j+(m+2)):Nat):Int)) rfl rfl (w64 om))<|e_mv rfl<|e_mv rfl<|e_mv rfl<|e_p (zO (z:=(((j+(m+2)):Nat):Int)) rfl rfl (w64 om))<|e_ru (zsa 1 (j+(m+2)) rfl ye sz121 rfl (by first|rfl|assumption|(simp;done)|omega) rfl rfl om)<|r_vl rfl rfl (zpa 1 (j+(m+2)) rfl ty121 rfl rfl (gD (d:=0) om) rfl) (fun _ hok45=> ?_)
       replace hok45:=zI.1 hok45
       refine e_mv rfl<|e_p (zO (z:=((xs.getD (j+(m+2)) 0)+cc)) rfl rfl (wu32 om))<|e_p (zza (z:=(((xs.getD (j+(m+2)) 0)+cc)%1000000000)) rfl rfl om (remN om om))<|e_ru (zsa 1 (j+(m+2)) rfl ye sz121 rfl (by first|rfl|assumption|(simp;done)|omega) rfl rfl om)<|zQa 1 rfl rfl rfl (zia (j:=(j+(m+2))) (x0:=(((xs.getD (j+(m+2)) 0)+cc)%1000000000)) (γ0:=()) rfl rfl (by first|omega|(rw [List.length_map];omega)|(simp only [List.length_set];omega)|(simp;done)|(simp;omega)) rfl rfl sz121 (fun _ _=>by exact zI.2 om)) (fun _=>(.s .z)) (fun _ _=> ?_)
       refine zi<|ze<|za<|e_mv rfl<|e_mv rfl<|e_mv rfl<|e_p (zN (z:=(g - 1)) rfl (by rw [yi];rfl) yh (wu32 om))<|e_p (zoa (j:=j) ye sz121 rfl rfl rfl om)<|zQa 0 rfl rfl rfl (zia (j:=j) (x0:=(g - 1)) (γ0:=()) rfl rfl (by first|omega|(rw [List.length_map];omega)|(simp only [List.length_set];omega)|(simp;done)|(simp;omega)) rfl rfl sz121 (fun _ _=>by exact zI.2 om)) (fun _=> .z) (fun _ _=> ?_)
       refine zi<|zT<|ze<|za<|e_mv rfl<|e_p (zna (z:=(((j:Nat):Int) - 1)) rfl rfl (w64 om))<|e_p (zd rfl)<|zi<|zla (j,(xs.set (j+(m+2)) (((xs.getD (j+(m+2)) 0)+cc)%1000000000)),((g - 1) :: qs)) (show yU M (m+2) ((A:Nat):Int) ((V:Nat):Int) j (xs.set (j+(m+2)) (((xs.getD (j+(m+2)) 0)+cc)%1000000000)) ((g - 1) :: qs) from by exact (hI.neg ⟨hg0,hg1⟩ hdn hup hM3 hm hd hA3).2) (by show j<j+1;omega) (mR rfl) (ho:=((.e (i:=0) rfl (by rw [Big.pad_set]) (.c (i:=0) rfl .n)):PickO _ _ _)) ((.of [2,3,4,5,6,7,8] rfl):SelR _ _ _)
     ·
      refine za<|e_mv rfl<|e_mv rfl<|e_mv rfl<|e_p (zO (z:=(((j+(m+2)):Nat):Int)) rfl rfl (w64 om))<|e_mv rfl<|e_p (zN (z:=(((w.getD (j+(m+2)) 0) - bo) - ca)) rfl (by rw [yw];rfl) yh (wu32 om))<|e_ru (zsa 1 (j+(m+2)) rfl ye sz121 rfl (by first|rfl|assumption|(simp;done)|omega) rfl rfl om)<|zQa 1 rfl rfl rfl (zia (j:=(j+(m+2))) (x0:=(((w.getD (j+(m+2)) 0) - bo) - ca)) (γ0:=()) rfl rfl (by first|omega|(rw [List.length_map];omega)|(simp only [List.length_set];omega)|(simp;done)|(simp;omega)) rfl rfl sz121 (fun _ _=>by exact zI.2 om)) (fun _=>(.s .z)) (fun _ _=> ?_)
      refine zi<|ze<|za<|e_mv rfl<|e_mv rfl<|e_mv rfl<|e_p (zN (z:=g) rfl (by rw [yi];rfl) yh (wu32 om))<|e_p (zoa (j:=j) ye sz121 rfl rfl rfl om)<|zQa 0 rfl rfl rfl (zia (j:=j) (x0:=g) (γ0:=()) rfl rfl (by first|omega|(rw [List.length_map];omega)|(simp only [List.length_set];omega)|(simp;done)|(simp;omega)) rfl rfl sz121 (fun _ _=>by exact zI.2 om)) (fun _=> .z) (fun _ _=> ?_)
      refine zi<|zT<|ze<|za<|e_mv rfl<|e_p (zna (z:=(((j:Nat):Int) - 1)) rfl rfl (w64 om))<|e_p (zd rfl)<|zi<|zla (j,(w.set (j+(m+2)) (((w.getD (j+(m+2)) 0) - bo) - ca)),(g :: qs)) (show yU M (m+2) ((A:Nat):Int) ((V:Nat):Int) j (w.set (j+(m+2)) (((w.getD (j+(m+2)) 0) - bo) - ca)) (g :: qs) from by exact hI.pos ⟨hg0,hg1⟩ hup hM3 hm om) (by show j<j+1;omega) (mR rfl) (ho:=((.e (i:=0) rfl (by rw [Big.pad_set]) (.c (i:=0) rfl .n)):PickO _ _ _)) ((.of [2,3,4,5,6,7,8] rfl):SelR _ _ _)
  ·
   have hj0:jj=0:=by omega
   have hI0:yU M (m+2) ((A:Nat):Int) ((V:Nat):Int) 0 u qs:=hj0 ▸ hI
   obtain ⟨hf1,hf2⟩:=hI0.fin hm
   have hsc:=Big.scale_div (a:=a) (b:=b) hs1
   have hql:qs.length=M - (m+2):=by have h8:=hI0.ql;omega
   have hul0:=hI0.ul
   refine zqa<|zk<|zk<|zD<|ze<|zh<|zBe 1 rfl (.s .z)<|zea 0 rfl (fun hcu=> ?_)
   have hAV:(yd (A%V)).length≤4398046511104:=Nat.le_trans (yN (Nat.le_of_lt (Nat.mod_lt A (Nat.pos_of_ne_zero (fun e=>by rw [e] at hm;cases hm))))) om
   have e46:List.replicate jj 0++qs=qs:=by rw [hj0];rfl
   rw [e46]
   refine za<|e_mv rfl<|e_mv rfl<|e_p (zzb (hi:=(m+2)) ye sz121 rfl (.s rfl) (.inr ⟨_,rfl⟩) om)<|zCc (zgc 0 rfl (m+2) om) (fun _ _=> ?_)
   refine zG rfl rfl (.c rfl .n) ce134 (zHb (p:=p17) (n:=(m+2)) (cap:=c18) (l:=(u.take (m+2))) (hn:=cbb)) (.c (j:=0) rfl .n) ?_
   rintro ⟨⟩ -
   dsimp only [aq,nq,cq]
   refine e_mv rfl ?_
   have e47:yA (u.take (m+2))=yd (A%V):=by exact hf2
   rw [e47]
   refine zG rfl rfl (.c rfl (.c rfl .n)) ce160 (zOd (a:=A%V) (mm:=s) (p:=p17) (cap:=c18) (hb:=om) (hm0:=om) (hm1:=om)) (.c (j:=0) rfl .n) ?_
   rintro ⟨p248,c249⟩ -
   dsimp only [aq,nq,cq]
   refine e_mv rfl<|e_p (zA rfl rfl)<|e_p (zA rfl rfl)<|e_p (zd rfl)<|zi<|ze<|zh<|za<|e_mv rfl<|zka 0 rfl .z<|zG rfl rfl (.c rfl .n) ce134 (zHb (p:=some ⟨b20,0,none⟩) (n:=(M - (m+2))) (cap:=(M - (m+2))) (l:=qs) (hn:=cbb)) (.c (j:=0) rfl .n) ?_
   rintro ⟨⟩ -
   dsimp only [aq,nq,cq]
   refine e_mv rfl<|e_p (zd rfl)<|e_p (zd rfl)<|zi<|ze<|zL ?_
   have e50:yA qs=yd (A / V):=by exact hf1
   rw [e50]
   exact zBa Tryz.results161 ((some ⟨b20,0,none⟩),(M - (m+2)),p248,c249) trivial (zl rfl) (zl rfl) (by rw [hA,hV,hsc.1,hsc.2]) (ho:=oN) ((.e (j:=0) rfl (by rw [hA,hV,hsc.1]) (.e (j:=2) rfl (by rw [hA,hV,hsc.2]) .n)):SelR _ _ _)
end Go.Proofs.YtjcpbhlijoigfaaGreat.Sp
namespace Go.Proofs.YtjcpbhlijoigfaaGreat.Sp
open Go
set_option linter.unusedVariables false
set_option maxRecDepth 100000
set_option maxHeartbeats 8000000
theorem zJe {a:Nat} {b:Nat} {p1:Option Addr} {c1:Nat} {p2:Option Addr} {c2:Nat} (hb1:(yd a).length≤4398046511104) (hb2:(yd b).length≤4398046511104) (hb0:0<b):Con yl 155 [.slice p1 ((yd a).length) c1,.slice p2 ((yd b).length) c2] [] [slF (rI .u32) p1 c1 (yd a),slF (rI .u32) p2 c2 (yd b)] (Y:=(Option Addr)×Nat×(Option Addr)×Nat) (fun y=>True) (fun y=> .tuple #[.slice (y.1) ((yd (a / b)).length) (y.2.1),.slice (y.2.2.1) ((yd (a%b)).length) (y.2.2.2)]) (fun y=>[]) (fun y=>[slF (rI .u32) (y.1) (y.2.1) (yd (a / b)),slF (rI .u32) (y.2.2.1) (y.2.2.2) (yd (a%b))]):=by
 refine zo Tryz.func155 rfl rfl rfl (fun c=> ?_)
 show RunC _ _ _ _ _ [(0,.slice p1 ((yd a).length) c1),(1,.slice p2 ((yd b).length) c2)] [] [slF (rI .u32) p1 c1 (yd a),slF (rI .u32) p2 c2 (yd b)]
 refine zea 0 rfl (fun hL0=> ?_)
 refine zea 1 rfl (fun hL1=> ?_)
 have hd1:=Nat.div_le_self a b
 have hd2:=Nat.mod_le a b
 have hob:=yq (yp b) 0
 refine zh<|za<|e_p (zd rfl)<|e_p (zd rfl)<|zi<|ze<|zh<|zh<|za<|e_mv rfl<|e_mv rfl<|zQ rfl rfl (.c rfl (.c rfl .n)) ce136 (zbc (a:=a) (b:=b) (p1:=p1) (c1:=c1) (p2:=p2) (c2:=c2)) (.c (j:=0) rfl (.c (j:=1) rfl .n))<|e_p (zda rfl rfl)<|zi<|ze<|zJ rfl (fun hlt=> ?_) (fun hlt=> ?_)
 ·
  have hab9:¬(b:Int)≤a:=fun h=>by have:=Big.cmp_ge.2 h;omega
  have hab:a<b:=by omega
  refine zh<|za<|e_mv rfl<|e_p (zd rfl)<|e_p (zd rfl)<|zi<|ze<|zL<|zj ?_
  have hz1:a / b=0:=Nat.div_eq_of_lt hab
  have hz2:a%b=a:=Nat.mod_eq_of_lt hab
  refine zGd (rI .u32) ?_
  exact zBa yK (none,0,p1,c1) trivial (zl rfl) (zl rfl) (by rw [hz1,hz2];rfl) (ho:=oN) ((.e (j:=0) rfl (by rw [hz1];rfl) (.e (j:=1) rfl (by rw [hz2]) .n)):SelR _ _ _)
 ·
  have hab:b≤a:=by have h9:=Big.cmp_ge.1 (by omega:0≤Big.cmp (a:Int) (b:Int));omega
  refine zC<|ze<|zh<|za<|e_mv rfl<|zQ rfl rfl (.c rfl .n) ce154 (zLc (a:=a) (p:=p1) (cap:=c1)) (.c (j:=0) rfl .n)<|e_mv rfl<|e_p (zA rfl rfl)<|e_p (zA rfl rfl)<|e_p (zd rfl)<|e_p (zd rfl)<|zi<|ze<|zh<|za<|e_mv rfl<|zQ rfl rfl (.c rfl .n) ce154 (zLc (a:=b) (p:=p2) (cap:=c2)) (.c (j:=1) rfl .n)<|e_mv rfl<|e_p (zA rfl rfl)<|e_p (zA rfl rfl)<|e_p (zd rfl)<|e_p (zd rfl)<|zi<|ze<|zh<|zGa (X:=Unit) (fun x=>True) (fun x=>[(30,.bool (decide (((yd a).length≤2)∧((yd b).length≤2)))),(8,.int .u64 (((if (yd b).length≤2 then b else 0):Nat):Int)),(6,.int .u64 (((if (yd a).length≤2 then a else 0):Nat):Int)),(5,.slice none 0 0),(4,.slice none 0 0),(0,.slice p1 ((yd a).length) c1),(1,.slice p2 ((yd b).length) c2)]) (fun x=>[]) (fun x=>[slF (rI .u32) p1 c1 (yd a),slF (rI .u32) p2 c2 (yd b)]) ?_ ?_
  ·
   refine za<|e_mv rfl<|zZ rfl rfl (zaa rfl) (fun h1=> ?_) (fun h1=> ?_)
   ·
    refine e_mv rfl<|e_p (zp rfl rfl)<|zi ?_
    exact zha () tt9 ((.e rfl (congrArg Value.bool cbu) (.of rfl)):SubM _ _) (ho:=oN) ((.of [0,1] rfl):SelR _ _ _)
   ·
    refine e_no<|e_p (zp rfl rfl)<|zi ?_
    exact zha () tt9 ((.e rfl (congrArg Value.bool cbu) (.of rfl)):SubM _ _) (ho:=oN) ((.of [0,1] rfl):SelR _ _ _)
  ·
   rintro ⟨⟩ -
   try dsimp only
   refine zJ rfl (fun hw=> ?_) (fun hw=> ?_)
   ·
    have ha18:=Big.two_lt hw.1
    have hb18:=Big.two_lt hw.2
    have hdn0:(0:Int)≤(a:Int) / (b:Int):=Int.ediv_nonneg om om
    have hdn1:(a:Int) / (b:Int)≤a:=Int.ediv_le_self _ om
    have hdm0:(0:Int)≤(a:Int)%(b:Int):=Int.emod_nonneg _ om
    have hdm1:(a:Int)%(b:Int)<b:=Int.emod_lt_of_pos _ om
    refine zh ?_
    have e2:(if (yd a).length≤2 then a else 0)=a:=by rw [if_pos hw.1]
    rw [e2]
    have e3:(if (yd b).length≤2 then b else 0)=b:=by rw [if_pos hw.2]
    rw [e3]
    refine zY (OW:=[]) (O:=[]) 100000 mixed (.then (.then .ret)) kr<|e_dm 0 rfl rfl rfl<|e_dm 1 rfl rfl rfl<|e_pv 2 rfl rfl (zmb (z:=(((a / b):Nat):Int)) rfl rfl om (by rw [quoN (z:=(((a / b):Nat):Int)) om om];exact wu64 om))<|e_dm 4 rfl rfl rfl<|e_dm 5 rfl rfl rfl<|e_pv 6 rfl rfl (zza (z:=(((a%b):Nat):Int)) rfl rfl om (remN om om))<|e_one 3 (zq rfl rfl rfl rfl (.c rfl .n) ce115 (zCb (n0:=(a / b)) (hn0:=cbo)) (.n) ?_)
    rintro ⟨p24,c25⟩ -
    dsimp only [aq,nq,cq]
    refine e_one 7 (zq rfl rfl rfl rfl (.c rfl .n) ce115 (zCb (n0:=(a%b)) (hn0:=cbo)) (.n) ?_)
    rintro ⟨p26,c27⟩ -
    dsimp only [aq,nq,cq]
    refine e_pv 8 rfl rfl (zd rfl)<|e_pv 9 rfl rfl (zd rfl)<|zW kr<|ze<|zL<|zj ?_
    exact zBa yK (p24,c25,p26,c27) trivial (zl rfl) (zl rfl) rfl (ho:=oN) ((.of [1,0] rfl):SelR _ _ _)
   ·
    refine zC<|ze<|zh<|zh<|za<|e_mv rfl<|e_p (zR ye rfl)<|e_p (zxa rfl rfl)<|zi<|ze<|zJ rfl (fun hl1=> ?_) (fun hl1=> ?_)
    ·
     have hbd:=Big.one_digit (by omega:(yd b).length=1)
     have hln0:=Big.zuf hb0
     have hmlt:=Nat.mod_lt a hb0
     have hdm0:(0:Int)≤(a:Int)%(b:Int):=Int.emod_nonneg _ om
     have hdm1:(a:Int)%(b:Int)<b:=Int.emod_lt_of_pos _ om
     refine zh<|za<|e_mv rfl<|e_mv rfl<|zX (x0:=((yd b).getD 0 0)) 1 0 rfl ye sz121 rfl rfl rfl (by first|rfl|assumption|(simp;done)|omega) rfl rfl (gD (d:=0) om) (fun b8 o9 hok10=> ?_)
     replace hok10:=zI.1 hok10
     refine e_ru (zB (j:=0) 0 ty121 rfl rfl rfl rfl) ?_
     have e11:(((yd b).getD 0 0):Int)=((b:Nat):Int):=by exact hbd
     rw [e11]
     refine zG rfl rfl (.c rfl (.c rfl .n)) ce160 (zOd (a:=a) (mm:=b) (p:=p1) (cap:=c1) (hb:=ass) (hm0:=ass) (hm1:=cbo)) (.c (j:=1) rfl .n) ?_
     rintro ⟨p212,c213⟩ -
     dsimp only [aq,nq,cq]
     refine e_mv rfl<|e_p (zA rfl rfl)<|e_p (zA rfl rfl)<|e_p (zd rfl)<|e_p (zd rfl)<|zi<|ze<|zh<|za<|e_mv rfl<|e_mv rfl<|e_p (zN (z:=(((a%b):Nat):Int)) rfl (by rw [yh];rfl) yi (wu64 om))<|zG rfl rfl (.c rfl .n) ce115 (zCb (n0:=(a%b)) (hn0:=cbo)) (.n) ?_
     rintro ⟨p214,c215⟩ -
     dsimp only [aq,nq,cq]
     refine e_p (zd rfl)<|e_p (zd rfl)<|zi<|ze<|zL<|zj ?_
     exact zBa yK (p212,c213,p214,c215) trivial (zl rfl) (zl rfl) rfl (ho:=oN) ((.of [1,0] rfl):SelR _ _ _)
    ·
     have hln0:=Big.zuf hb0
     refine zC<|ze<|zh<|za<|e_mv rfl<|e_mv rfl<|zG rfl rfl (.c rfl (.c rfl .n)) ce161 (zbg (a:=a) (b:=b) (p1:=p1) (c1:=c1) (p2:=p2) (c2:=c2) (hb1:=ass) (hb2:=ass) (hb3:=cbo) (hab:=cbo)) (.c (j:=0) rfl (.c (j:=1) rfl .n)) ?_
     rintro ⟨p316,c317,p418,c419⟩ -
     dsimp only [aq,nq,cq]
     refine e_p (zA rfl rfl)<|e_p (zA rfl rfl)<|e_p (zd rfl)<|e_p (zd rfl)<|zi<|ze<|zL ?_
     exact zBa yK (p316,c317,p418,c419) trivial (zl rfl) (zl rfl) rfl (ho:=oN) ((.of [0,1] rfl):SelR _ _ _)
theorem zEf {s:Bool} {p1:Option Addr} {n1:Nat} {c1:Nat} {l1:List Int} {t:Bool} {p2:Option Addr} {n2:Nat} {c2:Nat} {l2:List Int} (hn1:l1.length=n1) (hn2:l2.length=n2) (hb1:yo (yf s l1)≤4398046511104) (hb2:yo (yf t l2)≤4398046511104):Con yl 140 [.agg #[.bool s,.slice p1 n1 c1],.agg #[.bool t,.slice p2 n2 c2]] [] [slF (rI .u32) p1 c1 l1,slF (rI .u32) p2 c2 l2] (Y:=(Option Addr)×Nat) (fun y=>True) (fun y=> .agg #[.bool (decide (((Nat.gcd (yf s l1).natAbs (yf t l2).natAbs:Nat):Int)<0)),.slice (y.1) ((yd (((Nat.gcd (yf s l1).natAbs (yf t l2).natAbs:Nat):Int).natAbs)).length) (y.2)]) (fun y=>[]) (fun y=>[slF (rI .u32) (y.1) (y.2) (yd (((Nat.gcd (yf s l1).natAbs (yf t l2).natAbs:Nat):Int).natAbs))]):=by
 refine zo Tryz.func140 rfl rfl rfl (fun c=> ?_)
 show RunC _ _ _ _ _ [(0,.agg #[.bool s,.slice p1 n1 c1]),(1,.agg #[.bool t,.slice p2 n2 c2])] [] [slF (rI .u32) p1 c1 l1,slF (rI .u32) p2 c2 l2]
 refine zea 0 rfl (fun hL0=> ?_)
 refine zZa 0 rfl (fun hE0=> ?_)
 refine zea 1 rfl (fun hL1=> ?_)
 refine zZa 1 rfl (fun hE1=> ?_)
 have hnn1:yH l1:=fun g hg=>(zI.1 (hE0 g hg)).1
 have hnn2:yH l2:=fun g hg=>(zI.1 (hE1 g hg)).1
 obtain ⟨x1,hx1⟩:∃z,z=yf s l1:=⟨_,rfl⟩
 obtain ⟨x2,hx2⟩:∃z,z=yf t l2:=⟨_,rfl⟩
 unfold yo at hb1 hb2
 refine zh<|za<|zP rfl rfl (zS rfl rfl) (fun b1=> ?_)
 refine zP rfl rfl (zS rfl rfl) (fun b2=> ?_)
 refine zP rfl rfl (zn zr41 rfl) (fun b3=> ?_)
 refine zi<|ze<|zh<|zY (OW:=[]) (O:=[boxA b3 41 [wz.b,wz.l],boxA b2 41 [.bool t,.slice p2 n2 c2],boxA b1 41 [.bool s,.slice p1 n1 c1]]) 100000 mixed (.then .ret) kr<|e_u 0 rfl rfl (zb 2 ty41 rfl rfl (.t2 .nil))<|e_u 2 rfl rfl (zb 1 ty41 rfl rfl (.t2 .nil))<|e_one 1 (zq rfl rfl rfl rfl (.c rfl .n) ce117 (zUa (s:=s) (p:=p1) (n:=n1) (cap:=c1) (l:=l1) (hn:=ass)) (.c (j:=0) rfl .n) ?_)
 rintro ⟨p24,c25⟩ -
 dsimp only [aq,nq,cq]
 refine e_one 3 (zq rfl rfl rfl rfl (.c rfl .n) ce117 (zUa (s:=t) (p:=p2) (n:=n2) (cap:=c2) (l:=l2) (hn:=ass)) (.c (j:=2) rfl .n) ?_)
 rintro ⟨p26,c27⟩ -
 dsimp only [aq,nq,cq]
 refine e_pv 4 rfl rfl (zd rfl)<|e_pv 5 rfl rfl (zd rfl)<|zW kr<|ze<|zh<|zE<|zra (X:=Nat×Nat×(Option Addr)×Nat×(Option Addr)×Nat) (fun x:Nat×Nat×(Option Addr)×Nat×(Option Addr)×Nat=>Nat.gcd x.1 x.2.1=Nat.gcd (yf s l1).natAbs (yf t l2).natAbs∧(yd x.1).length≤4398046511104∧(yd x.2.1).length≤4398046511104) (fun x=>[(6,.slice (x.2.2.2.2.1) ((yd (x.2.1)).length) (x.2.2.2.2.2)),(5,.slice (x.2.2.1) ((yd (x.1)).length) (x.2.2.2.1)),(4,yc (some ⟨b3,0,none⟩))]) (fun x=>[boxA b3 41 [wz.b,wz.l],boxA b2 41 [.bool t,.slice p2 n2 c2],boxA b1 41 [.bool s,.slice p1 n1 c1]]) (fun x=>[slF (rI .u32) (x.2.2.1) (x.2.2.2.1) (yd (x.1)),slF (rI .u32) (x.2.2.2.2.1) (x.2.2.2.2.2) (yd (x.2.1)),slF (rI .u32) p26 c27 (yd ((yf t l2).natAbs)),slF (rI .u32) p24 c25 (yd ((yf s l1).natAbs)),slF (rI .u32) p1 c1 l1,slF (rI .u32) p2 c2 l2]) (fun x:Nat×Nat×(Option Addr)×Nat×(Option Addr)×Nat=>x.2.1) ((yf s l1).natAbs,(yf t l2).natAbs,p24,c25,p26,c27) (show Nat.gcd ((yf s l1).natAbs) ((yf t l2).natAbs)=Nat.gcd (yf s l1).natAbs (yf t l2).natAbs∧(yd ((yf s l1).natAbs)).length≤4398046511104∧(yd ((yf t l2).natAbs)).length≤4398046511104 from by exact ⟨rfl,hb1,hb2⟩) (mR rfl) (ho:=((.of [0,0,0] rfl):PickO _ _ _)) ((.of [1,0,0,1,2,3] rfl):SelR _ _ _) ?_
 rintro ⟨a,b,pa,ca,pb,cb⟩ hI
 replace hI:Nat.gcd a b=Nat.gcd (yf s l1).natAbs (yf t l2).natAbs∧(yd a).length≤4398046511104∧(yd b).length≤4398046511104:=hI
 try dsimp only
 obtain ⟨hgc,hba,hbb⟩:=hI
 refine zh<|zh<|za<|e_mv rfl<|e_p (zR ye rfl)<|e_p (zDa rfl rfl)<|zi<|ze<|zJ rfl (fun hne=> ?_) (fun hne=> ?_)
 ·
  have hb0:0<b:=Nat.pos_of_ne_zero (fun e=>by rw [e] at hne;simp [Big.digs_zero] at hne)
  refine zC<|ze<|zE<|zh<|za<|e_mv rfl<|zQ rfl rfl (.c rfl .n) ce154 (zLc (a:=a) (p:=pa) (cap:=ca)) (.c (j:=0) rfl .n)<|e_mv rfl<|e_p (zA rfl rfl)<|e_p (zA rfl rfl)<|e_p (zd rfl)<|e_p (zd rfl)<|zi<|ze<|zh<|za<|e_mv rfl<|zQ rfl rfl (.c rfl .n) ce154 (zLc (a:=b) (p:=pb) (cap:=cb)) (.c (j:=1) rfl .n)<|e_mv rfl<|e_p (zA rfl rfl)<|e_p (zA rfl rfl)<|e_p (zd rfl)<|e_p (zd rfl)<|zi<|ze<|zh<|zGa (X:=Unit) (fun x=>True) (fun x=>[(33,.bool (decide (((yd a).length≤2)∧((yd b).length≤2)))),(9,.int .u64 (((if (yd b).length≤2 then b else 0):Nat):Int)),(7,.int .u64 (((if (yd a).length≤2 then a else 0):Nat):Int)),(6,.slice pb ((yd b).length) cb),(5,.slice pa ((yd a).length) ca),(4,yc (some ⟨b3,0,none⟩))]) (fun x=>[boxA b3 41 [wz.b,wz.l],boxA b2 41 [.bool t,.slice p2 n2 c2],boxA b1 41 [.bool s,.slice p1 n1 c1]]) (fun x=>[slF (rI .u32) pa ca (yd a),slF (rI .u32) pb cb (yd b),slF (rI .u32) p26 c27 (yd ((yf t l2).natAbs)),slF (rI .u32) p24 c25 (yd ((yf s l1).natAbs)),slF (rI .u32) p1 c1 l1,slF (rI .u32) p2 c2 l2]) ?_ ?_
  ·
   refine za<|e_mv rfl<|zZ rfl rfl (zaa rfl) (fun hw1=> ?_) (fun hw1=> ?_)
   ·
    refine e_mv rfl<|e_p (zp rfl rfl)<|zi ?_
    exact zha () tt9 ((.e rfl (congrArg Value.bool cbu) (.of rfl)):SubM _ _) (ho:=((.of [0,0,0] rfl):PickO _ _ _)) ((.of [0,1,2,3,4,5] rfl):SelR _ _ _)
   ·
    refine e_no<|e_p (zp rfl rfl)<|zi ?_
    exact zha () tt9 ((.e rfl (congrArg Value.bool cbu) (.of rfl)):SubM _ _) (ho:=((.of [0,0,0] rfl):PickO _ _ _)) ((.of [0,1,2,3,4,5] rfl):SelR _ _ _)
  ·
   rintro ⟨⟩ -
   try dsimp only
   refine zJ rfl (fun hw=> ?_) (fun hw=> ?_)
   ·
    have ha18:=Big.two_lt hw.1
    have hb18:=Big.two_lt hw.2
    have e8:(if (yd a).length≤2 then a else 0)=a:=by rw [if_pos hw.1]
    rw [e8]
    have e9:(if (yd b).length≤2 then b else 0)=b:=by rw [if_pos hw.2]
    rw [e9]
    refine zh<|zE<|zra (X:=Nat×Nat) (fun x:Nat×Nat=>Nat.gcd x.1 x.2=Nat.gcd a b∧x.1<1000000000000000000∧x.2<1000000000000000000) (fun x=>[(9,.int .u64 ((x.2:Nat):Int)),(7,.int .u64 ((x.1:Nat):Int)),(6,.slice pb ((yd b).length) cb),(5,.slice pa ((yd a).length) ca),(4,yc (some ⟨b3,0,none⟩))]) (fun x=>[boxA b3 41 [wz.b,wz.l],boxA b2 41 [.bool t,.slice p2 n2 c2],boxA b1 41 [.bool s,.slice p1 n1 c1]]) (fun x=>[slF (rI .u32) pa ca (yd a),slF (rI .u32) pb cb (yd b),slF (rI .u32) p26 c27 (yd ((yf t l2).natAbs)),slF (rI .u32) p24 c25 (yd ((yf s l1).natAbs)),slF (rI .u32) p1 c1 l1,slF (rI .u32) p2 c2 l2]) (fun x:Nat×Nat=>x.2) (a,b) (show Nat.gcd a b=Nat.gcd a b∧a<1000000000000000000∧b<1000000000000000000 from by exact ⟨rfl,ha18,hb18⟩) (mR rfl) (ho:=((.of [0,0,0] rfl):PickO _ _ _)) ((.of [0,1,2,3,4,5] rfl):SelR _ _ _) ?_
    rintro ⟨q,r⟩ hJ
    replace hJ:Nat.gcd q r=Nat.gcd a b∧q<1000000000000000000∧r<1000000000000000000:=hJ
    try dsimp only
    obtain ⟨hgq,hq18,hr18⟩:=hJ
    have hmr:=Nat.mod_le q r
    refine zh<|zh<|za<|e_mv rfl<|e_p (zDa rfl rfl)<|zi<|ze<|zJ rfl (fun hy=> ?_) (fun hy=> ?_)
    ·
     refine zC<|ze<|zE<|zY (OW:=[]) (O:=[boxA b3 41 [wz.b,wz.l],boxA b2 41 [.bool t,.slice p2 n2 c2],boxA b1 41 [.bool s,.slice p1 n1 c1]]) 100000 mixed (.block (.then (.block (.then (.then (.block (.then (.block (.then .ret))))))))) kr<|e_dm 0 rfl rfl rfl<|e_dm 1 rfl rfl rfl<|e_dm 2 rfl rfl rfl<|e_pv 3 rfl rfl (zza (z:=(((q%r):Nat):Int)) rfl rfl om (remN om om))<|e_pv 4 rfl rfl (zd rfl)<|e_pv 5 rfl rfl (zd rfl)<|zW kr<|zT<|zla (r,(q%r)) (show Nat.gcd r (q%r)=Nat.gcd a b∧r<1000000000000000000∧(q%r)<1000000000000000000 from by exact ⟨by rw [Big.gcd_rest,hgq],hr18,by omega⟩) (by exact Nat.mod_lt q om) (mR rfl) (ho:=((.of [0,0,0] rfl):PickO _ _ _)) ((.of [0,1,2,3,4,5] rfl):SelR _ _ _)
    ·
     have hrz:r=0:=by omega
     have hfin:q=Nat.gcd (yf s l1).natAbs (yf t l2).natAbs:=by rw [← hgc,←hgq,hrz,Nat.gcd_zero_right]
     refine zqa<|zk<|zk<|zD<|ze<|zh<|za<|e_mv rfl<|zG rfl rfl (.c rfl .n) ce115 (zCb (n0:=q) (hn0:=cbo)) (.n) ?_
     rintro ⟨p210,c211⟩ -
     dsimp only [aq,nq,cq]
     refine zG rfl rfl (.c rfl (.c rfl .n)) ce114 (zHa (s:=false) (a:=q) (p:=p210) (cap:=c211)) (.c (j:=0) rfl .n) ?_
     rintro ⟨p212,c213⟩ -
     dsimp only [aq,nq,cq]
     refine zm 0 rfl rfl rfl rfl rfl sz41 rfl (.t2 .nil) .z<|zi<|ze<|zL<|zj<|zy<|zj<|zy<|zj ?_
     exact zx Tryz.results140 (p212,c213) trivial (zv 0 ty41 rfl rfl (.t2 .nil)) (by rw [← hfin];rfl) (ho:=oN) ((.e (j:=0) rfl (by rw [← hfin];rfl) .n):SelR _ _ _)
   ·
    refine zC<|ze<|zh<|za<|e_mv rfl<|e_mv rfl<|zG rfl rfl (.c rfl (.c rfl .n)) ce155 (zJe (a:=a) (b:=b) (p1:=pa) (c1:=ca) (p2:=pb) (c2:=cb) (hb1:=cbo) (hb2:=cbo) (hb0:=cbo)) (.c (j:=0) rfl (.c (j:=1) rfl .n)) ?_
    rintro ⟨p314,c315,p416,c417⟩ -
    dsimp only [aq,nq,cq]
    refine e_mv rfl<|e_p (zA rfl rfl)<|e_p (zA rfl rfl)<|e_p (zd rfl)<|e_p (zd rfl)<|zi<|ze<|za<|e_mv rfl<|e_mv rfl<|e_p (zd rfl)<|e_p (zd rfl)<|zi<|zT<|zla (b,(a%b),pb,cb,p416,c417) (show Nat.gcd b (a%b)=Nat.gcd (yf s l1).natAbs (yf t l2).natAbs∧(yd b).length≤4398046511104∧(yd (a%b)).length≤4398046511104 from by exact ⟨by rw [Big.gcd_rest,hgc],hbb,Nat.le_trans (yN (Nat.le_of_lt (Nat.mod_lt a hb0))) hbb⟩) (by exact Nat.mod_lt a hb0) ((.e rfl cgs (.c rfl (.c rfl .n))):SubM _ _) (ho:=((.of [0,0,0] rfl):PickO _ _ _)) ((.c (j:=3) rfl (.e (j:=1) rfl (by first|rfl|simp_all) (.of [4,5,6,7] rfl))):SelR _ _ _)
 ·
  have hbz:b=0:=yI.1 om
  have hfin:a=Nat.gcd (yf s l1).natAbs (yf t l2).natAbs:=by rw [← hgc,hbz,Nat.gcd_zero_right]
  refine zqa<|zk<|zk<|zD<|ze<|zh<|za<|e_mv rfl<|zG rfl rfl (.c rfl .n) ce153 (zvd (a:=a) (p:=pa) (cap:=ca) (hb:=cbo)) (.c (j:=0) rfl .n) ?_
  rintro ⟨p218,c219⟩ -
  dsimp only [aq,nq,cq]
  refine zG rfl rfl (.c rfl (.c rfl .n)) ce114 (zHa (s:=false) (a:=a) (p:=p218) (cap:=c219)) (.c (j:=0) rfl .n) ?_
  rintro ⟨p220,c221⟩ -
  dsimp only [aq,nq,cq]
  refine zm 0 rfl rfl rfl rfl rfl sz41 rfl (.t2 .nil) .z<|zi<|ze<|zL ?_
  exact zx Tryz.results140 (p220,c221) trivial (zv 0 ty41 rfl rfl (.t2 .nil)) (by rw [← hfin];rfl) (ho:=oN) ((.e (j:=0) rfl (by rw [← hfin];rfl) .n):SelR _ _ _)
theorem zcg {x1:Int} {x2:Int} {p1:Option Addr} {c1:Nat} {p2:Option Addr} {c2:Nat} (hb1:yo x1≤4398046511104) (hb2:yo x2≤4398046511104):Con yl 140 [.agg #[.bool (decide ((x1)<0)),.slice (p1) ((yd ((x1).natAbs)).length) (c1)],.agg #[.bool (decide ((x2)<0)),.slice (p2) ((yd ((x2).natAbs)).length) (c2)]] [] [slF (rI .u32) (p1) (c1) (yd ((x1).natAbs)),slF (rI .u32) (p2) (c2) (yd ((x2).natAbs))] (Y:=(Option Addr)×(Nat)) (fun y=>True) (fun y=> .agg #[.bool (decide ((((Nat.gcd x1.natAbs x2.natAbs:Nat):Int))<0)),.slice (y.1) ((yd ((((Nat.gcd x1.natAbs x2.natAbs:Nat):Int)).natAbs)).length) (y.2)]) (fun y=>[]) (fun y=>[slF (rI .u32) (y.1) (y.2) (yd ((((Nat.gcd x1.natAbs x2.natAbs:Nat):Int)).natAbs))]):=by
  have h:= @zEf (decide ((x1)<0)) p1 (yd (x1).natAbs).length c1 (yd (x1).natAbs) (decide ((x2)<0)) p2 (yd (x2).natAbs).length c2 (yd (x2).natAbs) rfl rfl (by rw [yu];exact hb1) (by rw [yu];exact hb2)
  rw [yu,yu] at h
  exact h
theorem zKe {w1:Wd} {w2:Wd} {x1:Int} {x2:Int} (hb1:yo x1≤4398046511104) (hb2:yo x2≤4398046511104):Con yl 140 [.agg #[w1.b,w1.l],.agg #[w2.b,w2.l]] [] [zF w1 (x1),zF w2 (x2)] (Y:=(Wd)) (fun y=>True) (fun y=> .agg #[y.b,y.l]) (fun y=>[]) (fun y=>[zF y (((Nat.gcd x1.natAbs x2.natAbs:Nat):Int))]):=by
  exact zZb (zHc (fun p1 c1 p2 c2=>zcg hb1 hb2))
end Go.Proofs.YtjcpbhlijoigfaaGreat.Sp
namespace Go.Proofs.YtjcpbhlijoigfaaGreat.Sp
open Go
set_option linter.unusedVariables false
set_option maxRecDepth 100000
set_option maxHeartbeats 8000000
theorem zke {x1:Int} {x2:Int} {p1:Option Addr} {c1:Nat} {p2:Option Addr} {c2:Nat} (hb1:yo x1≤4398046511104) (hb2:yo x2≤4398046511104) (hy:x2≠0):Con yl 141 [.agg #[.bool (decide (x1<0)),.slice p1 ((yd ((x1).natAbs)).length) c1],.agg #[.bool (decide (x2<0)),.slice p2 ((yd ((x2).natAbs)).length) c2]] [] [slF (rI .u32) p1 c1 (yd ((x1).natAbs)),slF (rI .u32) p2 c2 (yd ((x2).natAbs))] (Y:=(Option Addr)×Nat×(Option Addr)×Nat) (fun y=>True) (fun y=> .tuple #[.agg #[.bool (decide ((Big.fq x1 x2)<0)),.slice (y.1) ((yd ((Big.fq x1 x2).natAbs)).length) (y.2.1)],.agg #[.bool (decide ((Big.fr x1 x2)<0)),.slice (y.2.2.1) ((yd ((Big.fr x1 x2).natAbs)).length) (y.2.2.2)],ya yb 0]) (fun y=>[]) (fun y=>[slF (rI .u32) (y.1) (y.2.1) (yd ((Big.fq x1 x2).natAbs)),slF (rI .u32) (y.2.2.1) (y.2.2.2) (yd ((Big.fr x1 x2).natAbs))]):=by
 refine zo Tryz.func141 rfl rfl rfl (fun c=> ?_)
 show RunC _ _ _ _ _ [(0,.agg #[.bool (decide (x1<0)),.slice p1 ((yd ((x1).natAbs)).length) c1]),(1,.agg #[.bool (decide (x2<0)),.slice p2 ((yd ((x2).natAbs)).length) c2])] [] [slF (rI .u32) p1 c1 (yd ((x1).natAbs)),slF (rI .u32) p2 c2 (yd ((x2).natAbs))]
 refine zea 0 rfl (fun hL0=> ?_)
 refine zea 1 rfl (fun hL1=> ?_)
 unfold yo at hb1 hb2
 have hd1:=Nat.div_le_self x1.natAbs x2.natAbs
 have hd2:=Nat.mod_lt x1.natAbs (show 0<x2.natAbs by omega)
 have hl1:=yN hd1
 have hl2:=yN (Nat.le_of_lt hd2)
 refine zh<|za<|zP rfl rfl (zS rfl rfl) (fun b1=> ?_)
 refine zP rfl rfl (zS rfl rfl) (fun b2=> ?_)
 refine zP rfl rfl (zn zr41 rfl) (fun b3=> ?_)
 refine zP rfl rfl (zn zr41 rfl) (fun b4=> ?_)
 refine e_p (zd rfl)<|zi<|ze<|zh<|zY (OW:=[]) (O:=[boxA b4 41 [wz.b,wz.l],boxA b3 41 [wz.b,wz.l],boxA b2 41 [.bool (decide (x2<0)),.slice p2 ((yd ((x2).natAbs)).length) c2],boxA b1 41 [.bool (decide (x1<0)),.slice p1 ((yd ((x1).natAbs)).length) c1]]) 100000 mixed (.then .ret) kr<|e_u 0 rfl rfl (zb 3 ty41 rfl rfl (.t2 .nil))<|e_u 2 rfl rfl (zb 2 ty41 rfl rfl (.t2 .nil))<|e_one 1 (zq rfl rfl rfl rfl (.c rfl .n) ce117 (zIb (z:=x1) (p:=p1) (cap:=c1)) (.c (j:=0) rfl .n) ?_)
 rintro ⟨p25,c26⟩ -
 dsimp only [aq,nq,cq]
 refine e_one 3 (zq rfl rfl rfl rfl (.c rfl .n) ce117 (zIb (z:=x2) (p:=p2) (cap:=c2)) (.c (j:=2) rfl .n) ?_)
 rintro ⟨p27,c28⟩ -
 dsimp only [aq,nq,cq]
 refine e_pv 4 rfl rfl (zd rfl)<|e_pv 5 rfl rfl (zd rfl)<|zW kr<|ze<|zh<|zh<|za<|e_mv rfl<|e_p (zR ye rfl)<|e_p (zxa rfl rfl)<|zi<|ze<|zJ rfl (fun h9=> ?_) (fun h9=> ?_)
 ·
  exact absurd (yI.1 (show (yd x2.natAbs).length=0 by omega)) om
 ·
  refine zC<|ze<|zh<|za<|e_mv rfl<|e_mv rfl<|zG rfl rfl (.c rfl (.c rfl .n)) ce155 (zJe (a:=(x1).natAbs) (b:=(x2).natAbs) (p1:=p25) (c1:=c26) (p2:=p27) (c2:=c28) (hb1:=by first|rfl|assumption|omega|(decide +kernel)) (hb2:=by first|rfl|assumption|omega|(decide +kernel)) (hb0:=by first|rfl|assumption|omega|(decide +kernel))) (.c (j:=1) rfl (.c (j:=0) rfl .n)) ?_
  rintro ⟨p310,c311,p412,c413⟩ -
  dsimp only [aq,nq,cq]
  refine e_mv rfl<|e_p (zA rfl rfl)<|e_p (zA rfl rfl)<|e_p (zd rfl)<|e_p (zd rfl)<|zi<|ze<|zh<|za<|e_mv rfl<|zG rfl rfl (.c rfl .n) ce153 (zvd (a:=((x1).natAbs)%((x2).natAbs)) (p:=p412) (cap:=c413) (hb:=by first|rfl|assumption|omega|(decide +kernel))) (.c (j:=1) rfl .n) ?_
  rintro ⟨p214,c215⟩ -
  dsimp only [aq,nq,cq]
  refine e_p (zd rfl)<|zi<|ze<|zh<|zh<|za<|e_mv rfl<|e_p (zR ye rfl)<|e_p (zDa rfl rfl)<|zZ rfl rfl (zaa rfl) (fun hpos=> ?_) (fun hpos=> ?_)
  ·
   refine e_p (zf yg rfl sz4 rfl rfl)<|e_ru (zg 3 ty4 rfl rfl rfl)<|e_p (zf yg rfl sz4 rfl rfl)<|e_ru (zg 2 ty4 rfl rfl rfl)<|e_p (zTa yz rfl rfl)<|e_p (zp rfl rfl)<|zi<|ze<|zJ rfl (fun hadj=> ?_) (fun hadj=> ?_)
   ·
    have hsg:(decide (decide (x1<0)≠decide (x2<0)))=true:=decide_eq_true hadj
    have hr0:x1.natAbs%x2.natAbs≠0:=fun e=>by have h9:=hpos;rw [e,Big.digs_zero] at h9;exact absurd h9 dd
    refine za<|e_mv rfl<|zKa rfl rfl (zba (enc:=fun z:Int=>[.int .u32 z]) (ok:=InK .u32) (h1:=fun _=>rfl) (h2:=fun _=>rfl) (k:=1) ye inf121 rfl dd dd dd (.c (x:=1) rfl rfl (fun _ _=>by exact zI.2 om) .n)) (fun b16 _=> ?_)
    refine zka 0 rfl .z ?_
    have e17:[1]=yd 1:=by exact (Big.digs_one (s:=1) dd dd).symm
    rw [e17]
    have e18:(.slice (some ⟨b16,0,none⟩) 1 1:Value)= .slice (some ⟨b16,0,none⟩) ((yd 1).length) 1:=by rfl
    rw [e18]
    refine zG rfl rfl (.c rfl (.c rfl .n)) ce135 (zMd (a:=((x1).natAbs) / ((x2).natAbs)) (b:=1) (p1:=p310) (c1:=c311) (p2:=some ⟨b16,0,none⟩) (c2:=1) (hb1:=by first|rfl|assumption|omega|(decide +kernel)) (hb2:=by first|rfl|assumption|omega|(decide +kernel))) (.c (j:=2) rfl (.c (j:=0) rfl .n)) ?_
    rintro ⟨p319,c320⟩ -
    dsimp only [aq,nq,cq]
    refine e_mv rfl<|e_mv rfl<|zG rfl rfl (.c rfl (.c rfl .n)) ce137 (zWc (a:=(x2).natAbs) (b:=(((x1).natAbs)%((x2).natAbs))) (p1:=p27) (c1:=c28) (p2:=p214) (c2:=c215) (hb1:=by first|rfl|assumption|omega|(decide +kernel)) (hb2:=by first|rfl|assumption|omega|(decide +kernel)) (hab:=by first|rfl|assumption|omega|(decide +kernel))) (.c (j:=5) rfl (.c (j:=2) rfl .n)) ?_
    rintro ⟨p321,c322⟩ -
    dsimp only [aq,nq,cq]
    refine e_p (zd rfl)<|e_p (zd rfl)<|zi<|ze<|zh<|zwa (.c (i:=2) rfl (.c (i:=1) rfl (.c (i:=0) rfl (.c (i:=0) rfl (.c (i:=0) rfl .n)))))<|zY (OW:=[boxA b3 41 [wz.b,wz.l],boxA b4 41 [wz.b,wz.l]]) (O:=[emA,boxA b2 41 [.bool (decide (x2<0)),.slice p2 ((yd ((x2).natAbs)).length) c2],boxA b1 41 [.bool (decide (x1<0)),.slice p1 ((yd ((x1).natAbs)).length) c1]]) 11 mixed (.then .ret) kr<|e_pv 0 rfl rfl (zf yg rfl sz4 rfl rfl)<|e_uw 1 rfl rfl (zg 4 ty4 rfl rfl rfl)<|e_pv 2 rfl rfl (zf yg rfl sz4 rfl rfl)<|e_uw 3 rfl rfl (zg 3 ty4 rfl rfl rfl)<|e_pv 4 rfl rfl (zTa yz rfl rfl)<|e_dm 5 rfl rfl rfl<|e_pv 7 rfl rfl (zf yg rfl sz4 rfl rfl)<|e_uw 8 rfl rfl (zg 3 ty4 rfl rfl rfl)<|e_dm 9 rfl rfl rfl<|e_one 6 (zq rfl rfl rfl rfl (.c rfl (.c rfl .n)) ce114 (zHa (s:=decide (decide (x1<0)≠decide (x2<0))) (a:=(((x1).natAbs) / ((x2).natAbs))+1) (p:=p319) (cap:=c320)) (.c (j:=1) rfl .n) ?_)
    rintro ⟨p223,c224⟩ -
    dsimp only [aq,nq,cq]
    refine e_one 10 (zq rfl rfl rfl rfl (.c rfl (.c rfl .n)) ce114 (zHa (s:=decide (x2<0)) (a:=((x2).natAbs) - (((x1).natAbs)%((x2).natAbs))) (p:=p321) (cap:=c322)) (.c (j:=1) rfl .n) ?_)
    rintro ⟨p225,c226⟩ -
    dsimp only [aq,nq,cq]
    refine e_one 11 (zr kr rfl rfl rfl rfl rfl sz41 rfl (.t2 .nil) ?_)
    refine zeb (zfa (i:=1) rfl)<|e_one 12 (zr kr rfl rfl rfl rfl rfl sz41 rfl (.t2 .nil) ?_)
    refine e_pv 13 rfl rfl (zd rfl)<|zW kr<|ze<|zL ?_
    have hz1:yB (decide (decide (x1<0)≠decide (x2<0))) ((x1.natAbs / x2.natAbs+1:Nat):Int)=Big.fq x1 x2:=by rw [hsg];exact (Big.fq_odd hy hadj hr0).1
    have hz2:yB (decide (x2<0)) ((x2.natAbs - x1.natAbs%x2.natAbs:Nat):Int)=Big.fr x1 x2:=(Big.fq_odd hy hadj hr0).2
    exact zid Tryz.results141 (p223,c224,p225,c226) trivial (zv 1 ty41 rfl rfl (.t2 .nil)) (zv 0 ty41 rfl rfl (.t2 .nil)) (zl rfl) (by rw [hz1,hz2]) (ho:=oN) ((.e (j:=1) rfl (by rw [hz1]) (.e (j:=0) rfl (by rw [hz2]) .n)):SelR _ _ _)
   ·
    refine zC<|ze<|zh<|zwa (.c (i:=1) rfl (.c (i:=0) rfl (.c (i:=0) rfl (.c (i:=0) rfl .n))))<|zY (OW:=[boxA b3 41 [wz.b,wz.l],boxA b4 41 [wz.b,wz.l]]) (O:=[boxA b2 41 [.bool (decide (x2<0)),.slice p2 ((yd ((x2).natAbs)).length) c2],boxA b1 41 [.bool (decide (x1<0)),.slice p1 ((yd ((x1).natAbs)).length) c1]]) 11 mixed (.then .ret) kr<|e_pv 0 rfl rfl (zf yg rfl sz4 rfl rfl)<|e_uw 1 rfl rfl (zg 3 ty4 rfl rfl rfl)<|e_pv 2 rfl rfl (zf yg rfl sz4 rfl rfl)<|e_uw 3 rfl rfl (zg 2 ty4 rfl rfl rfl)<|e_pv 4 rfl rfl (zTa yz rfl rfl)<|e_dm 5 rfl rfl rfl<|e_pv 7 rfl rfl (zf yg rfl sz4 rfl rfl)<|e_uw 8 rfl rfl (zg 2 ty4 rfl rfl rfl)<|e_dm 9 rfl rfl rfl<|e_one 6 (zq rfl rfl rfl rfl (.c rfl (.c rfl .n)) ce114 (zHa (s:=decide (decide (x1<0)≠decide (x2<0))) (a:=((x1).natAbs) / ((x2).natAbs)) (p:=p310) (cap:=c311)) (.c (j:=1) rfl .n) ?_)
    rintro ⟨p227,c228⟩ -
    dsimp only [aq,nq,cq]
    refine e_one 10 (zq rfl rfl rfl rfl (.c rfl (.c rfl .n)) ce114 (zHa (s:=decide (x2<0)) (a:=(((x1).natAbs)%((x2).natAbs))) (p:=p214) (cap:=c215)) (.c (j:=1) rfl .n) ?_)
    rintro ⟨p229,c230⟩ -
    dsimp only [aq,nq,cq]
    refine e_one 11 (zr kr rfl rfl rfl rfl rfl sz41 rfl (.t2 .nil) ?_)
    refine zeb (zfa (i:=1) rfl)<|e_one 12 (zr kr rfl rfl rfl rfl rfl sz41 rfl (.t2 .nil) ?_)
    refine e_pv 13 rfl rfl (zd rfl)<|zW kr<|ze<|zL ?_
    have hsg:(decide (decide (x1<0)≠decide (x2<0)))=false:=decide_eq_false hadj
    have hz1:yB (decide (decide (x1<0)≠decide (x2<0))) ((x1.natAbs / x2.natAbs:Nat):Int)=Big.fq x1 x2:=by rw [hsg];exact (Big.fq_same hy (Decidable.not_not.1 hadj)).1
    have hz2:yB (decide (x2<0)) ((x1.natAbs%x2.natAbs:Nat):Int)=Big.fr x1 x2:=(Big.fq_same hy (Decidable.not_not.1 hadj)).2
    exact zid Tryz.results141 (p227,c228,p229,c230) trivial (zv 1 ty41 rfl rfl (.t2 .nil)) (zv 0 ty41 rfl rfl (.t2 .nil)) (zl rfl) (by rw [hz1,hz2]) (ho:=oN) ((.e (j:=1) rfl (by rw [hz1]) (.e (j:=0) rfl (by rw [hz2]) .n)):SelR _ _ _)
  ·
   refine e_no<|e_no<|e_no<|e_no<|e_no<|e_p (zp rfl rfl)<|zi<|ze<|zbb rfl rfl<|zC<|ze<|zh<|zwa (.c (i:=1) rfl (.c (i:=0) rfl (.c (i:=0) rfl (.c (i:=0) rfl .n))))<|zY (OW:=[boxA b3 41 [wz.b,wz.l],boxA b4 41 [wz.b,wz.l]]) (O:=[boxA b2 41 [.bool (decide (x2<0)),.slice p2 ((yd ((x2).natAbs)).length) c2],boxA b1 41 [.bool (decide (x1<0)),.slice p1 ((yd ((x1).natAbs)).length) c1]]) 11 mixed (.then .ret) kr<|e_pv 0 rfl rfl (zf yg rfl sz4 rfl rfl)<|e_uw 1 rfl rfl (zg 3 ty4 rfl rfl rfl)<|e_pv 2 rfl rfl (zf yg rfl sz4 rfl rfl)<|e_uw 3 rfl rfl (zg 2 ty4 rfl rfl rfl)<|e_pv 4 rfl rfl (zTa yz rfl rfl)<|e_dm 5 rfl rfl rfl<|e_pv 7 rfl rfl (zf yg rfl sz4 rfl rfl)<|e_uw 8 rfl rfl (zg 2 ty4 rfl rfl rfl)<|e_dm 9 rfl rfl rfl<|e_one 6 (zq rfl rfl rfl rfl (.c rfl (.c rfl .n)) ce114 (zHa (s:=decide (decide (x1<0)≠decide (x2<0))) (a:=((x1).natAbs) / ((x2).natAbs)) (p:=p310) (cap:=c311)) (.c (j:=1) rfl .n) ?_)
   rintro ⟨p231,c232⟩ -
   dsimp only [aq,nq,cq]
   refine e_one 10 (zq rfl rfl rfl rfl (.c rfl (.c rfl .n)) ce114 (zHa (s:=decide (x2<0)) (a:=(((x1).natAbs)%((x2).natAbs))) (p:=p214) (cap:=c215)) (.c (j:=1) rfl .n) ?_)
   rintro ⟨p233,c234⟩ -
   dsimp only [aq,nq,cq]
   refine e_one 11 (zr kr rfl rfl rfl rfl rfl sz41 rfl (.t2 .nil) ?_)
   refine zeb (zfa (i:=1) rfl)<|e_one 12 (zr kr rfl rfl rfl rfl rfl sz41 rfl (.t2 .nil) ?_)
   refine e_pv 13 rfl rfl (zd rfl)<|zW kr<|ze<|zL ?_
   have hr0:x1.natAbs%x2.natAbs=0:=yI.1 om
   have hz:yB (decide (decide (x1<0)≠decide (x2<0))) ((x1.natAbs / x2.natAbs:Nat):Int)=Big.fq x1 x2∧yB (decide (x2<0)) ((x1.natAbs%x2.natAbs:Nat):Int)=Big.fr x1 x2:=by by_cases h:decide (x1<0)=decide (x2<0);rw [decide_eq_false (not_not_intro h)];exact Big.fq_same hy h;rw [decide_eq_true h];exact Big.fq_even hy h hr0
   exact zid Tryz.results141 (p231,c232,p233,c234) trivial (zv 1 ty41 rfl rfl (.t2 .nil)) (zv 0 ty41 rfl rfl (.t2 .nil)) (zl rfl) (by rw [hz.1,hz.2]) (ho:=oN) ((.e (j:=1) rfl (by rw [hz.1]) (.e (j:=0) rfl (by rw [hz.2]) .n)):SelR _ _ _)
theorem zKb {w1:Wd} {w2:Wd} {x1:Int} {x2:Int} (hb1:yo x1≤4398046511104) (hb2:yo x2≤4398046511104) (hy:x2≠0):Con yl 141 [.agg #[w1.b,w1.l],.agg #[w2.b,w2.l]] [] [zF w1 (x1),zF w2 (x2)] (Y:=(Wd)×(Wd)) (fun y=>True) (fun y=> .tuple #[.agg #[y.1.b,y.1.l],.agg #[y.2.b,y.2.l],ya yb (0)]) (fun y=>[]) (fun y=>[zF y.1 (Big.fq x1 x2),zF y.2 (Big.fr x1 x2)]):=by
  exact zwf (zHc (fun p1 c1 p2 c2=>zke hb1 hb2 hy))
theorem zPd {x1:Int} {x2:Int} {p1:Option Addr} {c1:Nat} {p2:Option Addr} {c2:Nat}:Con yl 142 [.agg #[.bool (decide (x1<0)),.slice p1 ((yd ((x1).natAbs)).length) c1],.agg #[.bool (decide (x2<0)),.slice p2 ((yd ((x2).natAbs)).length) c2]] [] [slF (rI .u32) p1 c1 (yd ((x1).natAbs)),slF (rI .u32) p2 c2 (yd ((x2).natAbs))] (Y:=Unit) (fun y=>True) (fun y=> ya yb (Big.cmp x1 x2)) (fun y=>[]) (fun y=>[]):=by
 refine zo Tryz.func142 rfl rfl rfl (fun c=> ?_)
 show RunC _ _ _ _ _ [(0,.agg #[.bool (decide (x1<0)),.slice p1 ((yd ((x1).natAbs)).length) c1]),(1,.agg #[.bool (decide (x2<0)),.slice p2 ((yd ((x2).natAbs)).length) c2])] [] [slF (rI .u32) p1 c1 (yd ((x1).natAbs)),slF (rI .u32) p2 c2 (yd ((x2).natAbs))]
 refine zea 0 rfl (fun hL0=> ?_)
 refine zea 1 rfl (fun hL1=> ?_)
 have hcb:=Big.cmp_b (x1.natAbs:Int) (x2.natAbs:Int)
 refine zh<|za<|zP rfl rfl (zS rfl rfl) (fun b1=> ?_)
 refine zP rfl rfl (zS rfl rfl) (fun b2=> ?_)
 refine e_p (zd rfl)<|zi<|ze<|zh<|zh<|zY (OW:=[]) (O:=[boxA b2 41 [.bool (decide (x2<0)),.slice p2 ((yd ((x2).natAbs)).length) c2],boxA b1 41 [.bool (decide (x1<0)),.slice p1 ((yd ((x1).natAbs)).length) c1]]) 100000 mixed (.then (.then .ret)) kr<|e_u 0 rfl rfl (zb 1 ty41 rfl rfl (.t2 .nil))<|e_u 2 rfl rfl (zb 0 ty41 rfl rfl (.t2 .nil))<|e_one 1 (zta rfl rfl rfl rfl (.c rfl .n) ce120 (zXc (z:=x1) (p:=p1) (cap:=c1)) (.c (j:=0) rfl .n) ?_)
 refine e_one 3 (zta rfl rfl rfl rfl (.c rfl .n) ce120 (zXc (z:=x2) (p:=p2) (cap:=c2)) (.c (j:=1) rfl .n) ?_)
 refine e_pv 4 rfl rfl (zd rfl)<|e_pv 5 rfl rfl (zd rfl)<|zW kr<|ze<|zh<|za<|e_mv rfl<|e_mv rfl<|e_p (zXa rfl rfl)<|zi<|ze<|zJ rfl (fun hs=> ?_) (fun hs=> ?_)
 ·
  refine zh<|za<|e_mv rfl<|e_mv rfl<|zQ rfl rfl (.c rfl (.c rfl .n)) ce148 (zUc (u:=(x1).sign) (v:=(x2).sign)) (.n)<|e_p (zd rfl)<|zi<|ze<|zL<|zj ?_
  exact zx Tryz.results142 () trivial (zl rfl) (by rw [Big.cmp_signs hs]) (ho:=oN) sN
 ·
  refine zC<|ze<|zh<|zY (OW:=[]) (O:=[boxA b2 41 [.bool (decide (x2<0)),.slice p2 ((yd ((x2).natAbs)).length) c2],boxA b1 41 [.bool (decide (x1<0)),.slice p1 ((yd ((x1).natAbs)).length) c1]]) 100000 mixed (.then .ret) kr<|e_u 0 rfl rfl (zb 1 ty41 rfl rfl (.t2 .nil))<|e_u 2 rfl rfl (zb 0 ty41 rfl rfl (.t2 .nil))<|e_one 1 (zq rfl rfl rfl rfl (.c rfl .n) ce117 (zIb (z:=x1) (p:=p1) (cap:=c1)) (.c (j:=0) rfl .n) ?_)
  rintro ⟨p23,c24⟩ -
  dsimp only [aq,nq,cq]
  refine e_one 3 (zq rfl rfl rfl rfl (.c rfl .n) ce117 (zIb (z:=x2) (p:=p2) (cap:=c2)) (.c (j:=2) rfl .n) ?_)
  rintro ⟨p25,c26⟩ -
  dsimp only [aq,nq,cq]
  refine e_one 4 (zta rfl rfl rfl rfl (.c rfl (.c rfl .n)) ce136 (zbc (a:=(x1).natAbs) (b:=(x2).natAbs) (p1:=p23) (c1:=c24) (p2:=p25) (c2:=c26)) (.c (j:=1) rfl (.c (j:=0) rfl .n)) ?_)
  refine e_pv 5 rfl rfl (zd rfl)<|zW kr<|ze<|zh<|zh<|za<|e_p (zf yg rfl sz4 rfl rfl)<|e_ru (zg 1 ty4 rfl rfl rfl)<|zi<|ze<|zxb rfl (fun hn=> ?_) (fun hn=> ?_)
  ·
   refine zh<|za<|e_mv rfl<|e_p (zDd (z:=(-(Big.cmp (((x1).natAbs):Int) (((x2).natAbs):Int)))) rfl (w64 om))<|e_p (zd rfl)<|zi<|ze<|zL<|zj ?_
   exact zx Tryz.results142 () trivial (zl rfl) (by rw [Big.cmp_neg hs (by simpa using hn)]) (ho:=oN) sN
  ·
   refine zC<|ze<|zh<|za<|e_mv rfl<|e_p (zd rfl)<|zi<|ze<|zL ?_
   exact zx Tryz.results142 () trivial (zl rfl) (by rw [Big.cmp_pos hs (by simpa using hn)]) (ho:=oN) sN
theorem zle {s:Bool} {p:Option Addr} {n:Nat} {cap:Nat} {l:List Int} (hn:l.length=n) (hln:yo (yf s l)≤4398046511104):Con yl 139 [.agg #[.bool s,.slice p n cap]] [] [slF (rI .u32) p cap l] (Y:=(Option Addr)×Nat) (fun y=>True) (fun y=> .agg #[.bool (decide ((- yf s l)<0)),.slice (y.1) ((yd ((- yf s l).natAbs)).length) (y.2)]) (fun y=>[]) (fun y=>[slF (rI .u32) (y.1) (y.2) (yd ((- yf s l).natAbs))]):=by
 refine zo Tryz.func139 rfl rfl rfl (fun c=> ?_)
 show RunC _ _ _ _ _ [(0,.agg #[.bool s,.slice p n cap])] [] [slF (rI .u32) p cap l]
 refine zea 0 rfl (fun hL0=> ?_)
 refine zZa 0 rfl (fun hE0=> ?_)
 have hnn:yH l:=fun g hg=>(zI.1 (hE0 g hg)).1
 unfold yo at hln
 refine zh<|za<|zP rfl rfl (zS rfl rfl) (fun b1=> ?_)
 refine zP rfl rfl (zn zr41 rfl) (fun b2=> ?_)
 refine zi<|ze<|zh<|zY (OW:=[boxA b2 41 [wz.b,wz.l]]) (O:=[boxA b1 41 [.bool s,.slice p n cap]]) 7 mixed (.then .ret) kr<|e_pv 0 rfl rfl (zf yg rfl sz4 rfl rfl)<|e_uw 1 rfl rfl (zg 1 ty4 rfl rfl rfl)<|e_pv 2 rfl rfl (zOb rfl)<|e_uw 3 rfl rfl (zb 1 ty41 rfl rfl (.t2 .nil))<|e_one 4 (zq rfl rfl rfl rfl (.c rfl .n) ce117 (zUa (s:=s) (p:=p) (n:=n) (cap:=cap) (l:=l) (hn:=ass)) (.c (j:=0) rfl .n) ?_)
 rintro ⟨p23,c24⟩ -
 dsimp only [aq,nq,cq]
 refine e_one 5 (zq rfl rfl rfl rfl (.c rfl .n) ce153 (zvd (a:=(yf s l).natAbs) (p:=p23) (cap:=c24) (hb:=cbb)) (.c (j:=0) rfl .n) ?_)
 rintro ⟨p25,c26⟩ -
 dsimp only [aq,nq,cq]
 refine e_one 6 (zq rfl rfl rfl rfl (.c rfl (.c rfl .n)) ce114 (zHa (s:= !s) (a:=((yf s l).natAbs)) (p:=p25) (cap:=c26)) (.c (j:=0) rfl .n) ?_)
 rintro ⟨p27,c28⟩ -
 dsimp only [aq,nq,cq]
 refine e_one 7 (zr kr rfl rfl rfl rfl rfl sz41 rfl (.t2 .nil) ?_)
 refine zW kr<|ze<|zL ?_
 have hz:yB (!s) ((yf s l).natAbs:Int)= - yf s l:=by rw [Big.sg_not,Big.sg_raw hnn]
 exact zx Tryz.results139 (p27,c28) trivial (zv 0 ty41 rfl rfl (.t2 .nil)) (by rw [hz]) (ho:=oN) ((.e (j:=0) rfl (by rw [hz]) .n):SelR _ _ _)
theorem zwd {z:Int} {p:Option Addr} {cap:Nat} (hln:yo z≤4398046511104):Con yl 139 [.agg #[.bool (decide ((z)<0)),.slice (p) ((yd ((z).natAbs)).length) (cap)]] [] [slF (rI .u32) (p) (cap) (yd ((z).natAbs))] (Y:=(Option Addr)×(Nat)) (fun y=>True) (fun y=> .agg #[.bool (decide ((- z)<0)),.slice (y.1) ((yd ((- z).natAbs)).length) (y.2)]) (fun y=>[]) (fun y=>[slF (rI .u32) (y.1) (y.2) (yd ((- z).natAbs))]):=by
  have h:= @zle (decide ((z)<0)) p (yd (z).natAbs).length cap (yd (z).natAbs) rfl (by rw [yu];exact hln)
  rw [yu] at h
  exact h
theorem zxd {w1:Wd} {x1:Int} (hln:yo x1≤4398046511104):Con yl 139 [.agg #[w1.b,w1.l]] [] [zF w1 (x1)] (Y:=(Wd)) (fun y=>True) (fun y=> .agg #[y.b,y.l]) (fun y=>[]) (fun y=>[zF y (- x1)]):=by
  exact zZb (zFe (fun p c=>zwd hln))
end Go.Proofs.YtjcpbhlijoigfaaGreat.Sp
namespace Go.Proofs.YtjcpbhlijoigfaaGreat.Sp
open Go
set_option linter.unusedVariables false
set_option maxRecDepth 100000
set_option maxHeartbeats 8000000
theorem zWe {s:Bool} {p1:Option Addr} {n1:Nat} {c1:Nat} {l1:List Int} {t:Bool} {p2:Option Addr} {n2:Nat} {c2:Nat} {l2:List Int} (hn1:l1.length=n1) (hn2:l2.length=n2) (hm1:n1≤1099511627776) (hm2:n2≤1099511627776):Con yl 124 [.agg #[.bool s,.slice p1 n1 c1,.bool t,.slice p2 n2 c2]] [] [slF (rI .u32) p1 c1 l1,slF (rI .u32) p2 c2 l2] (Y:=Unit) (fun y=>True) (fun y=> .bool (decide (Big.qok ((s,l1),(t,l2))))) (fun y=>[]) (fun y=>[]):=by
 refine zo Tryz.func124 rfl rfl rfl (fun c=> ?_)
 show RunC _ _ _ _ _ [(0,.agg #[.bool s,.slice p1 n1 c1,.bool t,.slice p2 n2 c2])] [] [slF (rI .u32) p1 c1 l1,slF (rI .u32) p2 c2 l2]
 refine zea 0 rfl (fun hL0=> ?_)
 refine zZa 0 rfl (fun hE0=> ?_)
 refine zea 1 rfl (fun hL1=> ?_)
 refine zZa 1 rfl (fun hE1=> ?_)
 have hnn1:yH l1:=fun g hg=>(zI.1 (hE0 g hg)).1
 have hnn2:yH l2:=fun g hg=>(zI.1 (hE1 g hg)).1
 have hb1:yo (yf s l1)≤n1:=by have:=yJ (s:=s) hnn1;omega
 have hb2:yo (yf t l2)≤n2:=by have:=yJ (s:=t) hnn2;omega
 refine zh<|za<|zP rfl rfl (zS rfl rfl) (fun b1=> ?_)
 refine e_p (zd rfl)<|zi<|ze<|zh<|zGa (X:=Unit) (fun x=>True) (fun x=>[(18,.bool (decide (¬(Big.canon s l1∧Big.canon t l2∧0<yf t l2)))),(2,.bool false),(1,yc (some ⟨b1,0,none⟩))]) (fun x=>[boxA b1 43 [.bool s,.slice p1 n1 c1,.bool t,.slice p2 n2 c2]]) (fun x=>[slF (rI .u32) p1 c1 l1,slF (rI .u32) p2 c2 l2]) ?_ ?_
 ·
  refine za<|e_p (zf yj rfl sz41 rfl rfl)<|e_ru (zb 0 ty41 rfl rfl (.t2 .nil))<|zQ rfl rfl (.c rfl .n) ce138 (zVc (s:=s) (p:=p1) (n:=n1) (cap:=c1) (l:=l1) (hn:=ass)) (.c (j:=0) rfl .n)<|e_p (zgb rfl)<|zZ rfl rfl (zaa rfl) (fun h2=> ?_) (fun h2=> ?_)
  ·
   refine e_no<|e_no<|e_no<|e_no<|e_p (zp rfl rfl)<|e_mv rfl<|e_no<|e_no<|e_no<|e_no<|e_p (zp rfl rfl)<|zi ?_
   exact zha () tt9 ((.e rfl (congrArg Value.bool (by simp_all)) (.c rfl (.c rfl .n))):SubM _ _) (ho:=(o0 rfl)) ((.of [0,1] rfl):SelR _ _ _)
  ·
   refine e_p (zf yj rfl sz41 rfl rfl)<|e_ru (zb 0 ty41 rfl rfl (.s2 (.t2 .nil)))<|zQ rfl rfl (.c rfl .n) ce138 (zVc (s:=t) (p:=p2) (n:=n2) (cap:=c2) (l:=l2) (hn:=ass)) (.c (j:=1) rfl .n)<|e_p (zgb rfl)<|e_p (zp rfl rfl)<|zZ rfl rfl (zaa rfl) (fun h3=> ?_) (fun h3=> ?_)
   ·
    refine e_no<|e_no<|e_no<|e_no<|e_p (zp rfl rfl)<|zi ?_
    exact zha () tt9 ((.e rfl (congrArg Value.bool (by simp_all)) (.c rfl (.c rfl .n))):SubM _ _) (ho:=(o0 rfl)) ((.of [0,1] rfl):SelR _ _ _)
   ·
    refine e_p (zf yj rfl sz41 rfl rfl)<|e_ru (zb 0 ty41 rfl rfl (.s2 (.t2 .nil)))<|zQ rfl rfl (.c rfl .n) ce120 (zIe (s:=t) (p:=p2) (n:=n2) (cap:=c2) (l:=l2) (hn:=ass)) (.c (j:=1) rfl .n)<|e_p (zWa rfl rfl)<|e_p (zp rfl rfl)<|zi ?_
    exact zha () tt9 ((.e rfl (congrArg Value.bool (by exact decide_eq_decide.2 (Big.sgn_le (Decidable.not_not.1 ‹_›) (Decidable.not_not.1 ‹_›)))) (.c rfl (.c rfl .n))):SubM _ _) (ho:=(o0 rfl)) ((.of [0,1] rfl):SelR _ _ _)
 ·
  rintro ⟨⟩ -
  try dsimp only
  refine zJ rfl (fun hc=> ?_) (fun hc=> ?_)
  ·
   refine zh<|za<|e_p (zd rfl)<|zi<|ze<|zL<|zj ?_
   exact zx Tryz.results124 () trivial (zl rfl) (congrArg Value.bool (decide_eq_false (fun h=>hc ⟨h.1,h.2.1,h.2.2.1⟩))) (ho:=oN) sN
  ·
   refine zC<|ze<|zh<|za<|e_p (zf yj rfl sz41 rfl rfl)<|e_ru (zb 0 ty41 rfl rfl (.t2 .nil))<|e_p (zf yj rfl sz41 rfl rfl)<|e_ru (zb 0 ty41 rfl rfl (.s2 (.t2 .nil)))<|zG rfl rfl (.c rfl (.c rfl .n)) ce140 (zEf (s:=s) (p1:=p1) (n1:=n1) (c1:=c1) (l1:=l1) (t:=t) (p2:=p2) (n2:=n2) (c2:=c2) (l2:=l2) (hn1:=ass) (hn2:=ass) (hb1:=by first|rfl|assumption|omega|(rw [yr];omega)|(decide +kernel)) (hb2:=by first|rfl|assumption|omega|(rw [yr];omega)|(decide +kernel))) (.c (j:=0) rfl (.c (j:=1) rfl .n)) ?_
   rintro ⟨p34,c35⟩ -
   dsimp only [aq,nq,cq]
   refine zG rfl rfl (.c rfl .n) ce84 (zkg (z:=1) (hz:=by first|rfl|assumption|omega|(rw [yr];omega)|(decide +kernel))) (.n) ?_
   rintro ⟨p26,c27⟩ -
   dsimp only [aq,nq,cq]
   refine zQ rfl rfl (.c rfl (.c rfl .n)) ce142 (zPd (x1:=((Nat.gcd (yf s l1).natAbs (yf t l2).natAbs:Nat):Int)) (x2:=1) (p1:=p34) (c1:=c35) (p2:=p26) (c2:=c27)) (.c (j:=1) rfl (.c (j:=0) rfl .n))<|e_p (zxa rfl rfl)<|e_p (zd rfl)<|zi<|ze<|zL ?_
   exact zx Tryz.results124 () trivial (zl rfl) (congrArg Value.bool (decide_eq_decide.2 (Big.qok_gcd (x:=((s,l1),(t,l2))) (Decidable.not_not.1 hc)).symm)) (ho:=oN) sN
theorem zcc {w1:Wd} {w2:Wd} {x1:Int} {x2:Int} (hl1:yo x1≤1099511627776) (hl2:yo x2≤1099511627776) (hd:x2≠0):Con yl 121 [.agg #[w1.b,w1.l],.agg #[w2.b,w2.l]] [] [zF w1 x1,zF w2 x2] (Y:=Wd×Wd) (fun y=>True) (fun y=> .agg #[y.1.b,y.1.l,y.2.b,y.2.l]) (fun y=>[]) (fun y=>[qF true y.1 y.2 (Rat.divInt x1 x2)]):=by
 refine zo Tryz.func121 rfl rfl rfl (fun c=> ?_)
 show RunC _ _ _ _ _ [(0,.agg #[w1.b,w1.l]),(1,.agg #[w2.b,w2.l])] [] [zF w1 x1,zF w2 x2]
 refine zh<|za<|zP rfl rfl (zS rfl rfl) (fun b1=> ?_)
 refine zP rfl rfl (zS rfl rfl) (fun b2=> ?_)
 refine zP rfl rfl (zn zr43 rfl) (fun b3=> ?_)
 refine zi<|ze<|zh<|zh<|za<|e_ru (zb 1 ty41 rfl rfl (.t2 .nil))<|zQ rfl rfl (.c rfl .n) ce120 (zYc (w1:=w2) (x1:=x2)) (.c (j:=1) rfl .n)<|e_p (zda rfl rfl)<|zi<|ze<|zJ rfl (fun hneg=> ?_) (fun hneg=> ?_)
 ·
  have hs:x2<0:=by rcases Big.sign_le (x:=x2) with h|h|h <;> omega
  have hgp:=Big.gcd_pos_right (n:= -x1) (d:= -x2) om
  have hgl:=Big.zLd (n:= -x1) (d:= -x2) om
  rw [yr] at hgl
  obtain ⟨hr1,hr2⟩:=Big.red_flip (n:=x1) hs
  refine zwa (.c (i:=2) rfl (.c (i:=1) rfl (.c (i:=0) rfl .n)))<|zY (OW:=[boxA b1 41 [w1.b,w1.l],boxA b2 41 [w2.b,w2.l]]) (O:=[boxA b3 43 (cw [wz,wz])]) 4 mixed (.then .ret) kr<|e_uw 0 rfl rfl (zb 0 ty41 rfl rfl (.t2 .nil))<|e_uw 2 rfl rfl (zb 1 ty41 rfl rfl (.t2 .nil))<|e_one 1 (zq rfl rfl rfl rfl (.c rfl .n) ce139 (zxd (w1:=w1) (x1:=x1) (hln:=by first|rfl|assumption|omega|(rw [yr];omega)|(decide +kernel))) (.c (j:=0) rfl .n) ?_)
  rintro w34 -
  dsimp only [aq,nq,cq]
  refine e_one 3 (zq rfl rfl rfl rfl (.c rfl .n) ce139 (zxd (w1:=w2) (x1:=x2) (hln:=by first|rfl|assumption|omega|(rw [yr];omega)|(decide +kernel))) (.c (j:=2) rfl .n) ?_)
  rintro w35 -
  dsimp only [aq,nq,cq]
  refine e_one 4 (zr kr rfl rfl rfl rfl rfl sz41 rfl (.t2 .nil) ?_)
  refine zeb (zfa (i:=1) rfl)<|e_one 5 (zr kr rfl rfl rfl rfl rfl sz41 rfl (.t2 .nil) ?_)
  refine zW kr<|ze<|zh<|za<|e_ru (zb 1 ty41 rfl rfl (.t2 .nil))<|e_ru (zb 0 ty41 rfl rfl (.t2 .nil))<|zG rfl rfl (.c rfl (.c rfl .n)) ce140 (zKe (w1:=w34) (w2:=w35) (x1:= - x1) (x2:= - x2) (hb1:=by first|rfl|assumption|omega|(rw [yr];omega)|(decide +kernel)) (hb2:=by first|rfl|assumption|omega|(rw [yr];omega)|(decide +kernel))) (.c (j:=1) rfl (.c (j:=0) rfl .n)) ?_
  rintro w36 -
  dsimp only [aq,nq,cq]
  refine zP rfl rfl (zn zr41 rfl) (fun b7=> ?_)
  refine zm 0 rfl rfl rfl rfl rfl sz41 rfl (.t2 .nil) .z<|zi<|ze<|zh<|za<|e_ru (zb 2 ty41 rfl rfl (.t2 .nil))<|e_ru (zb 0 ty41 rfl rfl (.t2 .nil))<|zG rfl rfl (.c rfl (.c rfl .n)) ce141 (zKb (w1:=w34) (w2:=w36) (x1:= - x1) (x2:=((Nat.gcd (- x1).natAbs (- x2).natAbs:Nat):Int)) (hb1:=by first|rfl|assumption|omega|(rw [yr];omega)|(decide +kernel)) (hb2:=by first|rfl|assumption|omega|(rw [yr];omega)|(decide +kernel)) (hy:=by first|rfl|assumption|omega|(rw [yr];omega)|(decide +kernel))) (.c (j:=2) rfl (.c (j:=0) rfl .n)) ?_
  rintro ⟨w38,w49⟩ -
  dsimp only [aq,nq,cq]
  refine e_mv rfl<|e_p (zA rfl rfl)<|e_p (zA rfl rfl)<|e_p (zA rfl rfl)<|zm 2 rfl rfl rfl rfl rfl sz41 rfl (.t2 .nil) (.s (.s .z))<|zi<|ze<|zh<|za<|e_ru (zb 1 ty41 rfl rfl (.t2 .nil))<|e_ru (zb 0 ty41 rfl rfl (.t2 .nil))<|zG rfl rfl (.c rfl (.c rfl .n)) ce141 (zKb (w1:=w35) (w2:=w36) (x1:= - x2) (x2:=((Nat.gcd (- x1).natAbs (- x2).natAbs:Nat):Int)) (hb1:=by first|rfl|assumption|omega|(rw [yr];omega)|(decide +kernel)) (hb2:=by first|rfl|assumption|omega|(rw [yr];omega)|(decide +kernel)) (hy:=by first|rfl|assumption|omega|(rw [yr];omega)|(decide +kernel))) (.c (j:=3) rfl (.c (j:=2) rfl .n)) ?_
  rintro ⟨w310,w411⟩ -
  dsimp only [aq,nq,cq]
  refine e_mv rfl<|e_p (zA rfl rfl)<|e_p (zA rfl rfl)<|e_p (zA rfl rfl)<|zm 1 rfl rfl rfl rfl rfl sz41 rfl (.t2 .nil) (.s .z)<|zi<|ze<|zh<|za<|e_ru (zb 2 ty41 rfl rfl (.t2 .nil))<|e_ru (zb 1 ty41 rfl rfl (.t2 .nil))<|e_p (zK zr43 rfl yj (.c sz41 (.c sz41 .n)) (.c rfl (.c rfl .n)) (.c rfl rfl rfl (.t2 .nil) (.c rfl rfl rfl (.s2 (.t2 .nil)) .n)))<|zm 3 rfl rfl rfl rfl rfl sz43 rfl (.t4 .nil) (.s (.s (.s .z)))<|zi<|ze<|zL<|zQb (qF true w38 w310 (Rat.divInt x1 x2)) (qF_close 2 0 rfl rfl (by exact ⟨hr1,hr2,Nat.le_trans (Big.hq_divInt hd) om⟩)) ?_
  exact zx Tryz.results121 (w38,w310) trivial (zv 3 ty43 rfl rfl (.t4 .nil)) rfl (ho:=oN) (s0 rfl)
 ·
  have hs:0<x2:=by rcases Big.sign_le (x:=x2) with h|h|h <;> omega
  have hgp:=Big.gcd_pos_right (n:=x1) (d:=x2) om
  have hgl:=Big.zLd (n:=x1) (d:=x2) om
  obtain ⟨hr1,hr2⟩:=Big.red_pos (n:=x1) hs
  refine zC<|ze<|zh<|za<|e_ru (zb 2 ty41 rfl rfl (.t2 .nil))<|e_ru (zb 1 ty41 rfl rfl (.t2 .nil))<|zG rfl rfl (.c rfl (.c rfl .n)) ce140 (zKe (w1:=w1) (w2:=w2) (x1:=x1) (x2:=x2) (hb1:=by first|rfl|assumption|omega|(rw [yr];omega)|(decide +kernel)) (hb2:=by first|rfl|assumption|omega|(rw [yr];omega)|(decide +kernel))) (.c (j:=0) rfl (.c (j:=1) rfl .n)) ?_
  rintro w312 -
  dsimp only [aq,nq,cq]
  refine zP rfl rfl (zn zr41 rfl) (fun b13=> ?_)
  refine zm 0 rfl rfl rfl rfl rfl sz41 rfl (.t2 .nil) .z<|zi<|ze<|zh<|za<|e_ru (zb 3 ty41 rfl rfl (.t2 .nil))<|e_ru (zb 0 ty41 rfl rfl (.t2 .nil))<|zG rfl rfl (.c rfl (.c rfl .n)) ce141 (zKb (w1:=w1) (w2:=w312) (x1:=x1) (x2:=((Nat.gcd x1.natAbs x2.natAbs:Nat):Int)) (hb1:=by first|rfl|assumption|omega|(rw [yr];omega)|(decide +kernel)) (hb2:=by first|rfl|assumption|omega|(rw [yr];omega)|(decide +kernel)) (hy:=by first|rfl|assumption|omega|(rw [yr];omega)|(decide +kernel))) (.c (j:=1) rfl (.c (j:=0) rfl .n)) ?_
  rintro ⟨w314,w415⟩ -
  dsimp only [aq,nq,cq]
  refine e_mv rfl<|e_p (zA rfl rfl)<|e_p (zA rfl rfl)<|e_p (zA rfl rfl)<|zm 3 rfl rfl rfl rfl rfl sz41 rfl (.t2 .nil) (.s (.s (.s .z)))<|zi<|ze<|zh<|za<|e_ru (zb 2 ty41 rfl rfl (.t2 .nil))<|e_ru (zb 0 ty41 rfl rfl (.t2 .nil))<|zG rfl rfl (.c rfl (.c rfl .n)) ce141 (zKb (w1:=w2) (w2:=w312) (x1:=x2) (x2:=((Nat.gcd x1.natAbs x2.natAbs:Nat):Int)) (hb1:=by first|rfl|assumption|omega|(rw [yr];omega)|(decide +kernel)) (hb2:=by first|rfl|assumption|omega|(rw [yr];omega)|(decide +kernel)) (hy:=by first|rfl|assumption|omega|(rw [yr];omega)|(decide +kernel))) (.c (j:=4) rfl (.c (j:=2) rfl .n)) ?_
  rintro ⟨w316,w417⟩ -
  dsimp only [aq,nq,cq]
  refine e_mv rfl<|e_p (zA rfl rfl)<|e_p (zA rfl rfl)<|e_p (zA rfl rfl)<|zm 2 rfl rfl rfl rfl rfl sz41 rfl (.t2 .nil) (.s (.s .z))<|zi<|ze<|zh<|za<|e_ru (zb 3 ty41 rfl rfl (.t2 .nil))<|e_ru (zb 2 ty41 rfl rfl (.t2 .nil))<|e_p (zK zr43 rfl yj (.c sz41 (.c sz41 .n)) (.c rfl (.c rfl .n)) (.c rfl rfl rfl (.t2 .nil) (.c rfl rfl rfl (.s2 (.t2 .nil)) .n)))<|zm 1 rfl rfl rfl rfl rfl sz43 rfl (.t4 .nil) (.s .z)<|zi<|ze<|zL<|zQb (qF true w314 w316 (Rat.divInt x1 x2)) (qF_close 2 0 rfl rfl (by exact ⟨hr1,hr2,Nat.le_trans (Big.hq_divInt hd) om⟩)) ?_
  exact zx Tryz.results121 (w314,w316) trivial (zv 1 ty43 rfl rfl (.t4 .nil)) rfl (ho:=oN) (s0 rfl)
theorem zXe {s:Bool} {p1:Option Addr} {n1:Nat} {c1:Nat} {l1:List Int} {t:Bool} {p2:Option Addr} {n2:Nat} {c2:Nat} {l2:List Int} (hn1:l1.length=n1) (hn2:l2.length=n2) (hm1:n1≤1099511627776) (hm2:n2≤1099511627776) (hq:Big.qok ((s,l1),(t,l2))):Con yl 125 [.agg #[.bool s,.slice p1 n1 c1,.bool t,.slice p2 n2 c2]] [] [slF (rI .u32) p1 c1 l1,slF (rI .u32) p2 c2 l2] (Y:=(Option Addr)×Nat×(Option Addr)×Nat) (fun y=>True) (fun y=> .agg #[.bool (decide (((yS ((s,l1),(t,l2))).num)<0)),.slice (y.1) ((yd (((yS ((s,l1),(t,l2))).num).natAbs)).length) (y.2.1),.bool (decide ((((yS ((s,l1),(t,l2))).den:Nat):Int)<0)),.slice (y.2.2.1) ((yd ((((yS ((s,l1),(t,l2))).den:Nat):Int).natAbs)).length) (y.2.2.2)]) (fun y=>[]) (fun y=>[slF (rI .u32) (y.1) (y.2.1) (yd (((yS ((s,l1),(t,l2))).num).natAbs)),slF (rI .u32) (y.2.2.1) (y.2.2.2) (yd ((((yS ((s,l1),(t,l2))).den:Nat):Int).natAbs))]):=by
 refine zo Tryz.func125 rfl rfl rfl (fun c=> ?_)
 show RunC _ _ _ _ _ [(0,.agg #[.bool s,.slice p1 n1 c1,.bool t,.slice p2 n2 c2])] [] [slF (rI .u32) p1 c1 l1,slF (rI .u32) p2 c2 l2]
 refine zea 0 rfl (fun hL0=> ?_)
 refine zZa 0 rfl (fun hE0=> ?_)
 refine zea 1 rfl (fun hL1=> ?_)
 refine zZa 1 rfl (fun hE1=> ?_)
 have hnn1:yH l1:=fun g hg=>(zI.1 (hE0 g hg)).1
 have hnn2:yH l2:=fun g hg=>(zI.1 (hE1 g hg)).1
 have hb1:yo (yf s l1)≤n1:=by have:=yJ (s:=s) hnn1;omega
 have hb2:yo (yf t l2)≤n2:=by have:=yJ (s:=t) hnn2;omega
 refine zh<|za<|zP rfl rfl (zS rfl rfl) (fun b1=> ?_)
 refine zP rfl rfl (zn zr43 rfl) (fun b2=> ?_)
 refine zi<|ze<|zh<|zY (OW:=[boxA b2 43 (cw [wz,wz])]) (O:=[boxA b1 43 [.bool s,.slice p1 n1 c1,.bool t,.slice p2 n2 c2]]) 9 mixed (.then .ret) kr<|e_pv 0 rfl rfl (zf yj rfl sz41 rfl rfl)<|e_uw 1 rfl rfl (zb 1 ty41 rfl rfl (.t2 .nil))<|e_pv 4 rfl rfl (zf yj rfl sz41 rfl rfl)<|e_uw 5 rfl rfl (zb 1 ty41 rfl rfl (.s2 (.t2 .nil)))<|e_one 2 (zq rfl rfl rfl rfl (.c rfl .n) ce139 (zle (s:=s) (p:=p1) (n:=n1) (cap:=c1) (l:=l1) (hn:=ass) (hln:=by first|rfl|assumption|omega|(rw [yr];omega)|(decide +kernel))) (.c (j:=0) rfl .n) ?_)
 rintro ⟨p23,c24⟩ -
 dsimp only [aq,nq,cq]
 refine e_one 3 (zq rfl rfl rfl rfl (.c rfl .n) ce139 (zwd (z:= - yf s l1) (p:=p23) (cap:=c24) (hln:=by first|rfl|assumption|omega|(rw [yr];omega)|(decide +kernel))) (.c (j:=0) rfl .n) ?_)
 rintro ⟨p25,c26⟩ -
 dsimp only [aq,nq,cq]
 refine e_one 6 (zq rfl rfl rfl rfl (.c rfl .n) ce139 (zle (s:=t) (p:=p2) (n:=n2) (cap:=c2) (l:=l2) (hn:=ass) (hln:=by first|rfl|assumption|omega|(rw [yr];omega)|(decide +kernel))) (.c (j:=3) rfl .n) ?_)
 rintro ⟨p27,c28⟩ -
 dsimp only [aq,nq,cq]
 refine e_one 7 (zq rfl rfl rfl rfl (.c rfl .n) ce139 (zwd (z:= - yf t l2) (p:=p27) (cap:=c28) (hln:=by first|rfl|assumption|omega|(rw [yr];omega)|(decide +kernel))) (.c (j:=0) rfl .n) ?_)
 rintro ⟨p29,c210⟩ -
 dsimp only [aq,nq,cq]
 refine e_pv 8 rfl rfl (zK zr43 rfl yj (.c sz41 (.c sz41 .n)) (.c rfl (.c rfl .n)) (.c rfl rfl rfl (.t2 .nil) (.c rfl rfl rfl (.s2 (.t2 .nil)) .n)))<|e_one 9 (zr kr rfl rfl rfl rfl rfl sz43 rfl (.t4 .nil) ?_)
 refine zW kr<|ze<|zL ?_
 have hz1: - - yf s l1=(yS ((s,l1),(t,l2))).num:=by rw [Int.neg_neg];exact (Big.qv_parts hq).1.symm
 have hz2: - - yf t l2=(((yS ((s,l1),(t,l2))).den:Nat):Int):=by rw [Int.neg_neg];exact (Big.qv_parts hq).2.symm
 exact zx Tryz.results125 (p25,c26,p29,c210) trivial (zv 0 ty43 rfl rfl (.t4 .nil)) (by rw [hz1,hz2]) (ho:=oN) ((.e (j:=2) rfl (by rw [hz1]) (.e (j:=0) rfl (by rw [hz2]) .n)):SelR _ _ _)
theorem zme {s:Bool} {p1:Option Addr} {n1:Nat} {c1:Nat} {l1:List Int} {t:Bool} {p2:Option Addr} {n2:Nat} {c2:Nat} {l2:List Int} (hn1:l1.length=n1) (hn2:l2.length=n2) (hm1:n1≤1099511627776) (hm2:n2≤1099511627776) (hq:Big.qok ((s,l1),(t,l2))) (hl:yO (yS ((s,l1),(t,l2)))≤1099511627776):Con yl 125 [.agg #[.bool (s),.slice (p1) (n1) (c1),.bool (t),.slice (p2) (n2) (c2)]] [] [slF (rI .u32) (p1) (c1) (l1),slF (rI .u32) (p2) (c2) (l2)] (Y:=(Wd)×(Wd)) (fun y=>True) (fun y=> .agg #[y.1.b,y.1.l,y.2.b,y.2.l]) (fun y=>[]) (fun y=>[qF true y.1 y.2 (yS ((s,l1),(t,l2)))]):=by
  exact con_qr (zXe hn1 hn2 hm1 hm2 hq) rfl rfl hl
theorem zZc {z:Int} (hz: -9223372036854775808≤z∧z≤9223372036854775807):Con yl 93 [ya yb z] [] [] (Y:=Wd×Wd) (fun y=>True) (fun y=> .agg #[y.1.b,y.1.l,y.2.b,y.2.l]) (fun y=>[]) (fun y=>[qF true y.1 y.2 ((z:Int):Rat)]):=by
 refine zo Tryz.func93 rfl rfl rfl (fun c=> ?_)
 show RunC _ _ _ _ _ [(0,ya yb z)] [] []
 refine zh<|za<|zP rfl rfl (zn zr43 rfl) (fun b1=> ?_)
 refine zi<|ze<|zh<|za<|e_mv rfl<|zG rfl rfl (.c rfl .n) ce84 (zCf (z:=z) (hz:=ass)) (.n) ?_
 rintro w32 -
 dsimp only [aq,nq,cq]
 refine zG rfl rfl (.c rfl .n) ce84 (zCf (z:=1) (hz:=by first|rfl|assumption|omega|(rw [yr];omega)|(decide +kernel))) (.n) ?_
 rintro w33 -
 dsimp only [aq,nq,cq]
 refine e_p (zK zr43 rfl yj (.c sz41 (.c sz41 .n)) (.c rfl (.c rfl .n)) (.c rfl rfl rfl (.t2 .nil) (.c rfl rfl rfl (.s2 (.t2 .nil)) .n)))<|zm 0 rfl rfl rfl rfl rfl sz43 rfl (.t4 .nil) .z<|zi<|ze<|zL<|zQb (qF true w32 w33 ((z:Int):Rat)) (qF_close 1 0 rfl rfl (by exact ⟨(Rat.num_intCast z).symm,by rw [Rat.den_intCast];rfl,Nat.le_trans (Big.hq_64 hz.1 hz.2) dd⟩)) ?_
 exact zx Tryz.results93 (w32,w33) trivial (zv 0 ty43 rfl rfl (.t4 .nil)) rfl (ho:=oN) (s0 rfl)
theorem zYe {s:Bool} {p1:Option Addr} {n1:Nat} {c1:Nat} {l1:List Int} {t:Bool} {p2:Option Addr} {n2:Nat} {c2:Nat} {l2:List Int} (hn1:l1.length=n1) (hn2:l2.length=n2) (hm1:n1≤1099511627776) (hm2:n2≤1099511627776):Con yl 98 [.agg #[.bool s,.slice p1 n1 c1,.bool t,.slice p2 n2 c2]] [] [slF (rI .u32) p1 c1 l1,slF (rI .u32) p2 c2 l2] (Y:=Wd×Wd) (fun y=>True) (fun y=> .agg #[y.1.b,y.1.l,y.2.b,y.2.l]) (fun y=>[]) (fun y=>[qF true y.1 y.2 (yS ((s,l1),(t,l2)))]):=by
 refine zo Tryz.func98 rfl rfl rfl (fun c=> ?_)
 show RunC _ _ _ _ _ [(0,.agg #[.bool s,.slice p1 n1 c1,.bool t,.slice p2 n2 c2])] [] [slF (rI .u32) p1 c1 l1,slF (rI .u32) p2 c2 l2]
 refine zea 0 rfl (fun hL0=> ?_)
 refine zZa 0 rfl (fun hE0=> ?_)
 refine zea 1 rfl (fun hL1=> ?_)
 refine zZa 1 rfl (fun hE1=> ?_)
 have hnn1:yH l1:=fun g hg=>(zI.1 (hE0 g hg)).1
 have hnn2:yH l2:=fun g hg=>(zI.1 (hE1 g hg)).1
 have hb1:yo (yf s l1)≤n1:=by have:=yJ (s:=s) hnn1;omega
 have hb2:yo (yf t l2)≤n2:=by have:=yJ (s:=t) hnn2;omega
 refine zh<|za<|zP rfl rfl (zS rfl rfl) (fun b1=> ?_)
 refine zP rfl rfl (zn zr43 rfl) (fun b2=> ?_)
 refine zi<|ze<|zh<|zh<|za<|e_ru (zb 1 ty43 rfl rfl (.t4 .nil))<|zQ rfl rfl (.c rfl .n) ce124 (zWe (s:=s) (p1:=p1) (n1:=n1) (c1:=c1) (l1:=l1) (t:=t) (p2:=p2) (n2:=n2) (c2:=c2) (l2:=l2) (hn1:=ass) (hn2:=ass) (hm1:=ass) (hm2:=ass)) (.c (j:=0) rfl (.c (j:=1) rfl .n))<|zi<|ze<|zJ rfl (fun hq=> ?_) (fun hq=> ?_)
 ·
  have hrp:=Big.raw_parts (x:=((s,l1),(t,l2))) hnn1 hnn2 hq
  have hqp:=Big.qv_parts (x:=((s,l1),(t,l2))) hq
  have hl:yO (yS ((s,l1),(t,l2)))≤1099511627776:=by unfold yO;rw [hqp.1,hqp.2];dsimp only;omega
  refine zh<|za<|e_ru (zb 1 ty43 rfl rfl (.t4 .nil))<|zG rfl rfl (.c rfl .n) ce125 (zme (s:=s) (p1:=p1) (n1:=n1) (c1:=c1) (l1:=l1) (t:=t) (p2:=p2) (n2:=n2) (c2:=c2) (l2:=l2) (hn1:=ass) (hn2:=ass) (hm1:=ass) (hm2:=ass) (hq:=by first|rfl|assumption|omega|(rw [yr];omega)|(decide +kernel)) (hl:=by first|rfl|assumption|omega|(rw [yr];omega)|(decide +kernel))) (.c (j:=0) rfl (.c (j:=1) rfl .n)) ?_
  rintro ⟨w33,w44⟩ -
  dsimp only [aq,nq,cq]
  refine zm 0 rfl rfl rfl rfl rfl sz43 rfl (.t4 .nil) .z<|zi<|ze<|zL<|zj ?_
  exact zx Tryz.results98 (w33,w44) trivial (zv 0 ty43 rfl rfl (.t4 .nil)) rfl (ho:=oN) (s0 rfl)
 ·
  have hz:=Big.qv_not (x:=((s,l1),(t,l2))) hq
  refine zC<|ze<|zh<|za<|zG rfl rfl (.c rfl .n) ce93 (zZc (z:=0) (hz:=by first|rfl|assumption|omega|(rw [yr];omega)|(decide +kernel))) (.n) ?_
  rintro ⟨w35,w46⟩ -
  dsimp only [aq,nq,cq]
  refine zm 0 rfl rfl rfl rfl rfl sz43 rfl (.t4 .nil) .z<|zi<|ze<|zL ?_
  exact zx Tryz.results98 (w35,w46) trivial (zv 0 ty43 rfl rfl (.t4 .nil)) rfl (ho:=oN) ((.e (j:=0) rfl (by rw [hz];rfl) .n):SelR _ _ _)
theorem zMa {k1:Bool} {u1:Wd} {v1:Wd} {q1:Rat}:Con yl 98 [.agg #[u1.b,u1.l,v1.b,v1.l]] [] [qF k1 u1 v1 (q1)] (Y:=(Wd)×(Wd)) (fun y=>True) (fun y=> .agg #[y.1.b,y.1.l,y.2.b,y.2.l]) (fun y=>[]) (fun y=>[qF true y.1 y.2 (q1)]):=by
  exact zvf (fun x hx hk h1 h2 hl=>by subst hx;exact zYe rfl rfl h1 h2)
theorem zad {k1:Bool} {u1:Wd} {v1:Wd} {q1:Rat}:Con yl 97 [.agg #[u1.b,u1.l,v1.b,v1.l]] [] [qF k1 u1 v1 q1] (Y:=Unit) (fun y=>True) (fun y=> ya yb (Big.sgq q1)) (fun y=>[]) (fun y=>[]):=by
 refine zo Tryz.func97 rfl rfl rfl (fun c=> ?_)
 show RunC _ _ _ _ _ [(0,.agg #[u1.b,u1.l,v1.b,v1.l])] [] [qF k1 u1 v1 q1]
 refine zh<|za<|zP rfl rfl (zS rfl rfl) (fun b1=> ?_)
 refine e_p (zd rfl)<|zi<|ze<|zh<|za<|e_ru (zb 0 ty43 rfl rfl (.t4 .nil))<|zG rfl rfl (.c rfl .n) ce98 (zMa (k1:=k1) (u1:=u1) (v1:=v1) (q1:=q1)) (.c (j:=0) rfl .n) ?_
 rintro ⟨w32,w43⟩ -
 dsimp only [aq,nq,cq]
 refine e_p (zDc yj rfl ty41 rfl (.t2 .nil))<|zCc (qF_open 0 rfl) (fun _ _=> ?_)
 refine zQ rfl rfl (.c rfl .n) ce120 (zYc (w1:=w32) (x1:=(q1).num)) (.c (j:=0) rfl .n)<|e_p (zd rfl)<|zi<|ze<|zL ?_
 exact zx Tryz.results97 () trivial (zl rfl) rfl (ho:=oN) sN
theorem zdg {k1:Bool} {u1:Wd} {v1:Wd} {q1:Rat} (hl:yO q1≤1099511627776):Con yl 126 [.agg #[u1.b,u1.l,v1.b,v1.l]] [] [qF k1 u1 v1 q1] (Y:=Wd×Wd) (fun y=>True) (fun y=> .agg #[y.1.b,y.1.l,y.2.b,y.2.l]) (fun y=>[]) (fun y=>[qF true y.1 y.2 (- q1)]):=by
 refine zo Tryz.func126 rfl rfl rfl (fun c=> ?_)
 show RunC _ _ _ _ _ [(0,.agg #[u1.b,u1.l,v1.b,v1.l])] [] [qF k1 u1 v1 q1]
 have a1:=yC q1
 have a2:=yD q1
 refine zh<|za<|zP rfl rfl (zS rfl rfl) (fun b1=> ?_)
 refine zP rfl rfl (zn zr43 rfl) (fun b2=> ?_)
 refine zi<|ze<|zh<|za<|e_ru (zb 1 ty43 rfl rfl (.t4 .nil))<|zG rfl rfl (.c rfl .n) ce98 (zMa (k1:=k1) (u1:=u1) (v1:=v1) (q1:=q1)) (.c (j:=0) rfl .n) ?_
 rintro ⟨w33,w44⟩ -
 dsimp only [aq,nq,cq]
 refine zm 1 rfl rfl rfl rfl rfl sz43 rfl (.t4 .nil) (.s .z)<|zi<|ze<|zh<|zY (OW:=[boxA b2 43 (cw [wz,wz])]) (O:=[boxA b1 43 (cw [w33,w44])]) 6 mixed (.then .ret) kr<|e_pv 0 rfl rfl (zf yj rfl sz41 rfl rfl)<|e_uw 1 rfl rfl (zb 1 ty41 rfl rfl (.t2 .nil))<|e_pv 3 rfl rfl (zf yj rfl sz41 rfl rfl)<|e_uw 4 rfl rfl (zb 1 ty41 rfl rfl (.s2 (.t2 .nil)))<|zvb (qF_open 0 rfl) (fun _ _=> ?_)
 refine e_one 2 (zq rfl rfl rfl rfl (.c rfl .n) ce139 (zxd (w1:=w33) (x1:=(q1).num) (hln:=by first|rfl|assumption|omega|(rw [yr];omega)|(decide +kernel))) (.c (j:=0) rfl .n) ?_)
 rintro w35 -
 dsimp only [aq,nq,cq]
 refine e_pv 5 rfl rfl (zK zr43 rfl yj (.c sz41 (.c sz41 .n)) (.c rfl (.c rfl .n)) (.c rfl rfl rfl (.t2 .nil) (.c rfl rfl rfl (.s2 (.t2 .nil)) .n)))<|e_one 6 (zr kr rfl rfl rfl rfl rfl sz43 rfl (.t4 .nil) ?_)
 refine zW kr<|ze<|zL<|zQb (qF true w35 w44 (- q1)) (qF_close 0 2 rfl rfl (by exact ⟨(Rat.neg_num q1).symm,by rw [Rat.neg_den],by rw [Big.hq_neg];exact hl⟩)) ?_
 exact zx Tryz.results126 (w35,w44) trivial (zv 0 ty43 rfl rfl (.t4 .nil)) rfl (ho:=oN) (s0 rfl)
theorem zyd {k1:Bool} {u1:Wd} {v1:Wd} {q1:Rat} {k2:Bool} {u2:Wd} {v2:Wd} {q2:Rat} (hl:yO q1+yO q2+1≤1099511627776):Con yl 101 [.agg #[u1.b,u1.l,v1.b,v1.l],.agg #[u2.b,u2.l,v2.b,v2.l]] [] [qF k1 u1 v1 q1,qF k2 u2 v2 q2] (Y:=Wd×Wd) (fun y=>True) (fun y=> .agg #[y.1.b,y.1.l,y.2.b,y.2.l]) (fun y=>[]) (fun y=>[qF true y.1 y.2 (q1+q2)]):=by
 refine zo Tryz.func101 rfl rfl rfl (fun c=> ?_)
 show RunC _ _ _ _ _ [(0,.agg #[u1.b,u1.l,v1.b,v1.l]),(1,.agg #[u2.b,u2.l,v2.b,v2.l])] [] [qF k1 u1 v1 q1,qF k2 u2 v2 q2]
 have a1:=yC q1
 have a2:=yD q1
 have a3:=yC q2
 have a4:=yD q2
 have b1:=yQ q1.num q2.den
 have b2:=yQ q2.num q1.den
 have b3:=Big.zTc (q1.num*q2.den) (q2.num*q1.den)
 have b4:=yQ (q1.den:Int) q2.den
 have b5:=yQ q1.num q2.num
 refine zh<|za<|zP rfl rfl (zS rfl rfl) (fun b1=> ?_)
 refine zP rfl rfl (zS rfl rfl) (fun b2=> ?_)
 refine zP rfl rfl (zn zr43 rfl) (fun b3=> ?_)
 refine zi<|ze<|zh<|zwa (.c (i:=2) rfl (.c (i:=1) rfl (.c (i:=0) rfl .n)))<|zY (OW:=[boxA b1 43 (cw [u1,v1]),boxA b2 43 (cw [u2,v2])]) (O:=[boxA b3 43 (cw [wz,wz])]) 4 mixed (.then .ret) kr<|e_uw 0 rfl rfl (zb 0 ty43 rfl rfl (.t4 .nil))<|e_uw 2 rfl rfl (zb 1 ty43 rfl rfl (.t4 .nil))<|e_one 1 (zq rfl rfl rfl rfl (.c rfl .n) ce98 (zMa (k1:=k1) (u1:=u1) (v1:=v1) (q1:=q1)) (.c (j:=0) rfl .n) ?_)
 rintro ⟨w34,w45⟩ -
 dsimp only [aq,nq,cq]
 refine e_one 3 (zq rfl rfl rfl rfl (.c rfl .n) ce98 (zMa (k1:=k2) (u1:=u2) (v1:=v2) (q1:=q2)) (.c (j:=2) rfl .n) ?_)
 rintro ⟨w36,w47⟩ -
 dsimp only [aq,nq,cq]
 refine e_one 4 (zr kr rfl rfl rfl rfl rfl sz43 rfl (.t4 .nil) ?_)
 refine zeb (zfa (i:=1) rfl)<|e_one 5 (zr kr rfl rfl rfl rfl rfl sz43 rfl (.t4 .nil) ?_)
 refine zW kr<|ze<|zh<|zwa (.c (i:=2) rfl (.c (i:=0) rfl (.c (i:=0) rfl .n)))<|zY (OW:=[boxA b3 43 (cw [wz,wz])]) (O:=[boxA b2 43 (cw [w36,w47]),boxA b1 43 (cw [w34,w45])]) 17 mixed (.then .ret) kr<|e_pv 0 rfl rfl (zf yj rfl sz41 rfl rfl)<|e_uw 1 rfl rfl (zb 2 ty41 rfl rfl (.t2 .nil))<|e_pv 2 rfl rfl (zf yj rfl sz41 rfl rfl)<|e_uw 3 rfl rfl (zb 1 ty41 rfl rfl (.s2 (.t2 .nil)))<|e_pv 5 rfl rfl (zf yj rfl sz41 rfl rfl)<|e_uw 6 rfl rfl (zb 1 ty41 rfl rfl (.t2 .nil))<|e_pv 7 rfl rfl (zf yj rfl sz41 rfl rfl)<|e_uw 8 rfl rfl (zb 2 ty41 rfl rfl (.s2 (.t2 .nil)))<|e_pv 11 rfl rfl (zf yj rfl sz41 rfl rfl)<|e_uw 12 rfl rfl (zb 2 ty41 rfl rfl (.s2 (.t2 .nil)))<|e_pv 13 rfl rfl (zf yj rfl sz41 rfl rfl)<|e_uw 14 rfl rfl (zb 1 ty41 rfl rfl (.s2 (.t2 .nil)))<|zvb (qF_open 1 rfl) (fun _ _=> ?_)
 refine zvb (qF_open 2 rfl) (fun _ _=> ?_)
 refine e_one 4 (zq rfl rfl rfl rfl (.c rfl (.c rfl .n)) ce86 (zJb (w1:=w34) (w2:=w47) (x1:=(q1).num) (x2:=(((q2).den:Nat):Int)) (hb1:=by first|rfl|assumption|omega|(rw [yr];omega)|(decide +kernel)) (hb2:=by first|rfl|assumption|omega|(rw [yr];omega)|(decide +kernel))) (.c (j:=2) rfl (.c (j:=1) rfl .n)) ?_)
 rintro w38 -
 dsimp only [aq,nq,cq]
 refine e_one 9 (zq rfl rfl rfl rfl (.c rfl (.c rfl .n)) ce86 (zJb (w1:=w36) (w2:=w45) (x1:=(q2).num) (x2:=(((q1).den:Nat):Int)) (hb1:=by first|rfl|assumption|omega|(rw [yr];omega)|(decide +kernel)) (hb2:=by first|rfl|assumption|omega|(rw [yr];omega)|(decide +kernel))) (.c (j:=1) rfl (.c (j:=4) rfl .n)) ?_)
 rintro w39 -
 dsimp only [aq,nq,cq]
 refine e_one 10 (zq rfl rfl rfl rfl (.c rfl (.c rfl .n)) ce85 (zZf (w1:=w38) (w2:=w39) (x1:=((q1).num)*(((q2).den:Nat):Int)) (x2:=((q2).num)*(((q1).den:Nat):Int)) (hb1:=by first|rfl|assumption|omega|(rw [yr];omega)|(decide +kernel)) (hb2:=by first|rfl|assumption|omega|(rw [yr];omega)|(decide +kernel))) (.c (j:=1) rfl (.c (j:=0) rfl .n)) ?_)
 rintro w310 -
 dsimp only [aq,nq,cq]
 refine e_one 15 (zq rfl rfl rfl rfl (.c rfl (.c rfl .n)) ce86 (zJb (w1:=w45) (w2:=w47) (x1:=(((q1).den:Nat):Int)) (x2:=(((q2).den:Nat):Int)) (hb1:=by first|rfl|assumption|omega|(rw [yr];omega)|(decide +kernel)) (hb2:=by first|rfl|assumption|omega|(rw [yr];omega)|(decide +kernel))) (.c (j:=6) rfl (.c (j:=4) rfl .n)) ?_)
 rintro w311 -
 dsimp only [aq,nq,cq]
 refine e_one 16 (zq rfl rfl rfl rfl (.c rfl (.c rfl .n)) ce121 (zcc (w1:=w310) (w2:=w311) (x1:=(((q1).num)*(((q2).den:Nat):Int))+(((q2).num)*(((q1).den:Nat):Int))) (x2:=(((q1).den:Nat):Int)*(((q2).den:Nat):Int)) (hl1:=by first|rfl|assumption|omega|(rw [yr];omega)|(decide +kernel)) (hl2:=by first|rfl|assumption|omega|(rw [yr];omega)|(decide +kernel)) (hd:=by exact Int.mul_ne_zero (yT q1) (yT q2))) (.c (j:=1) rfl (.c (j:=0) rfl .n)) ?_)
 rintro ⟨w312,w413⟩ -
 dsimp only [aq,nq,cq]
 refine e_one 17 (zr kr rfl rfl rfl rfl rfl sz43 rfl (.t4 .nil) ?_)
 refine zW kr<|ze<|zL ?_
 exact zx Tryz.results101 (w312,w413) trivial (zv 0 ty43 rfl rfl (.t4 .nil)) rfl (ho:=oN) ((.e (j:=0) rfl (by rw [Big.add_parts]) .n):SelR _ _ _)
theorem zMc {k1:Bool} {u1:Wd} {v1:Wd} {q1:Rat} {k2:Bool} {u2:Wd} {v2:Wd} {q2:Rat} (hl:yO q1+yO q2+1≤1099511627776):Con yl 102 [.agg #[u1.b,u1.l,v1.b,v1.l],.agg #[u2.b,u2.l,v2.b,v2.l]] [] [qF k1 u1 v1 q1,qF k2 u2 v2 q2] (Y:=Wd×Wd) (fun y=>True) (fun y=> .agg #[y.1.b,y.1.l,y.2.b,y.2.l]) (fun y=>[]) (fun y=>[qF true y.1 y.2 (q1*q2)]):=by
 refine zo Tryz.func102 rfl rfl rfl (fun c=> ?_)
 show RunC _ _ _ _ _ [(0,.agg #[u1.b,u1.l,v1.b,v1.l]),(1,.agg #[u2.b,u2.l,v2.b,v2.l])] [] [qF k1 u1 v1 q1,qF k2 u2 v2 q2]
 have a1:=yC q1
 have a2:=yD q1
 have a3:=yC q2
 have a4:=yD q2
 have b1:=yQ q1.num q2.den
 have b2:=yQ q2.num q1.den
 have b3:=Big.zTc (q1.num*q2.den) (q2.num*q1.den)
 have b4:=yQ (q1.den:Int) q2.den
 have b5:=yQ q1.num q2.num
 refine zh<|za<|zP rfl rfl (zS rfl rfl) (fun b1=> ?_)
 refine zP rfl rfl (zS rfl rfl) (fun b2=> ?_)
 refine zP rfl rfl (zn zr43 rfl) (fun b3=> ?_)
 refine zi<|ze<|zh<|zwa (.c (i:=2) rfl (.c (i:=1) rfl (.c (i:=0) rfl .n)))<|zY (OW:=[boxA b1 43 (cw [u1,v1]),boxA b2 43 (cw [u2,v2])]) (O:=[boxA b3 43 (cw [wz,wz])]) 4 mixed (.then .ret) kr<|e_uw 0 rfl rfl (zb 0 ty43 rfl rfl (.t4 .nil))<|e_uw 2 rfl rfl (zb 1 ty43 rfl rfl (.t4 .nil))<|e_one 1 (zq rfl rfl rfl rfl (.c rfl .n) ce98 (zMa (k1:=k1) (u1:=u1) (v1:=v1) (q1:=q1)) (.c (j:=0) rfl .n) ?_)
 rintro ⟨w34,w45⟩ -
 dsimp only [aq,nq,cq]
 refine e_one 3 (zq rfl rfl rfl rfl (.c rfl .n) ce98 (zMa (k1:=k2) (u1:=u2) (v1:=v2) (q1:=q2)) (.c (j:=2) rfl .n) ?_)
 rintro ⟨w36,w47⟩ -
 dsimp only [aq,nq,cq]
 refine e_one 4 (zr kr rfl rfl rfl rfl rfl sz43 rfl (.t4 .nil) ?_)
 refine zeb (zfa (i:=1) rfl)<|e_one 5 (zr kr rfl rfl rfl rfl rfl sz43 rfl (.t4 .nil) ?_)
 refine zW kr<|ze<|zh<|zwa (.c (i:=2) rfl (.c (i:=0) rfl (.c (i:=0) rfl .n)))<|zY (OW:=[boxA b3 43 (cw [wz,wz])]) (O:=[boxA b2 43 (cw [w36,w47]),boxA b1 43 (cw [w34,w45])]) 11 mixed (.then .ret) kr<|e_pv 0 rfl rfl (zf yj rfl sz41 rfl rfl)<|e_uw 1 rfl rfl (zb 2 ty41 rfl rfl (.t2 .nil))<|e_pv 2 rfl rfl (zf yj rfl sz41 rfl rfl)<|e_uw 3 rfl rfl (zb 1 ty41 rfl rfl (.t2 .nil))<|e_pv 5 rfl rfl (zf yj rfl sz41 rfl rfl)<|e_uw 6 rfl rfl (zb 2 ty41 rfl rfl (.s2 (.t2 .nil)))<|e_pv 7 rfl rfl (zf yj rfl sz41 rfl rfl)<|e_uw 8 rfl rfl (zb 1 ty41 rfl rfl (.s2 (.t2 .nil)))<|zvb (qF_open 1 rfl) (fun _ _=> ?_)
 refine zvb (qF_open 2 rfl) (fun _ _=> ?_)
 refine e_one 4 (zq rfl rfl rfl rfl (.c rfl (.c rfl .n)) ce86 (zJb (w1:=w34) (w2:=w36) (x1:=(q1).num) (x2:=(q2).num) (hb1:=by first|rfl|assumption|omega|(rw [yr];omega)|(decide +kernel)) (hb2:=by first|rfl|assumption|omega|(rw [yr];omega)|(decide +kernel))) (.c (j:=2) rfl (.c (j:=0) rfl .n)) ?_)
 rintro w38 -
 dsimp only [aq,nq,cq]
 refine e_one 9 (zq rfl rfl rfl rfl (.c rfl (.c rfl .n)) ce86 (zJb (w1:=w45) (w2:=w47) (x1:=(((q1).den:Nat):Int)) (x2:=(((q2).den:Nat):Int)) (hb1:=by first|rfl|assumption|omega|(rw [yr];omega)|(decide +kernel)) (hb2:=by first|rfl|assumption|omega|(rw [yr];omega)|(decide +kernel))) (.c (j:=4) rfl (.c (j:=2) rfl .n)) ?_)
 rintro w39 -
 dsimp only [aq,nq,cq]
 refine e_one 10 (zq rfl rfl rfl rfl (.c rfl (.c rfl .n)) ce121 (zcc (w1:=w38) (w2:=w39) (x1:=((q1).num)*((q2).num)) (x2:=(((q1).den:Nat):Int)*(((q2).den:Nat):Int)) (hl1:=by first|rfl|assumption|omega|(rw [yr];omega)|(decide +kernel)) (hl2:=by first|rfl|assumption|omega|(rw [yr];omega)|(decide +kernel)) (hd:=by exact Int.mul_ne_zero (yT q1) (yT q2))) (.c (j:=1) rfl (.c (j:=0) rfl .n)) ?_)
 rintro ⟨w310,w411⟩ -
 dsimp only [aq,nq,cq]
 refine e_one 11 (zr kr rfl rfl rfl rfl rfl sz43 rfl (.t4 .nil) ?_)
 refine zW kr<|ze<|zL ?_
 exact zx Tryz.results102 (w310,w411) trivial (zv 0 ty43 rfl rfl (.t4 .nil)) rfl (ho:=oN) ((.e (j:=0) rfl (by rw [Big.mul_parts]) .n):SelR _ _ _)
theorem zoc {k1:Bool} {u1:Wd} {v1:Wd} {q1:Rat} {k2:Bool} {u2:Wd} {v2:Wd} {q2:Rat} (hl:yO q1+yO q2+1≤1099511627776):Con yl 100 [.agg #[u1.b,u1.l,v1.b,v1.l],.agg #[u2.b,u2.l,v2.b,v2.l]] [] [qF k1 u1 v1 q1,qF k2 u2 v2 q2] (Y:=Wd×Wd) (fun y=>True) (fun y=> .agg #[y.1.b,y.1.l,y.2.b,y.2.l]) (fun y=>[]) (fun y=>[qF true y.1 y.2 (q1 - q2)]):=by
 refine zo Tryz.func100 rfl rfl rfl (fun c=> ?_)
 show RunC _ _ _ _ _ [(0,.agg #[u1.b,u1.l,v1.b,v1.l]),(1,.agg #[u2.b,u2.l,v2.b,v2.l])] [] [qF k1 u1 v1 q1,qF k2 u2 v2 q2]
 have a1:=yC q1
 have a2:=yD q1
 have a3:=yC q2
 have a4:=yD q2
 refine zh<|za<|zP rfl rfl (zS rfl rfl) (fun b1=> ?_)
 refine zP rfl rfl (zS rfl rfl) (fun b2=> ?_)
 refine zP rfl rfl (zn zr43 rfl) (fun b3=> ?_)
 refine zi<|ze<|zh<|zY (OW:=[boxA b3 43 (cw [wz,wz])]) (O:=[boxA b2 43 (cw [u2,v2]),boxA b1 43 (cw [u1,v1])]) 4 mixed (.then .ret) kr<|e_uw 0 rfl rfl (zb 2 ty43 rfl rfl (.t4 .nil))<|e_uw 1 rfl rfl (zb 1 ty43 rfl rfl (.t4 .nil))<|e_one 2 (zq rfl rfl rfl rfl (.c rfl .n) ce126 (zdg (k1:=k2) (u1:=u2) (v1:=v2) (q1:=q2) (hl:=by first|rfl|assumption|omega|(rw [yr];omega)|(decide +kernel)|(rw [Big.hq_neg];omega))) (.c (j:=1) rfl .n) ?_)
 rintro ⟨w34,w45⟩ -
 dsimp only [aq,nq,cq]
 refine e_one 3 (zq rfl rfl rfl rfl (.c rfl (.c rfl .n)) ce101 (zyd (k1:=k1) (u1:=u1) (v1:=v1) (q1:=q1) (k2:=true) (u2:=w34) (v2:=w45) (q2:= - q2) (hl:=by first|rfl|assumption|omega|(rw [yr];omega)|(decide +kernel)|(rw [Big.hq_neg];omega))) (.c (j:=1) rfl (.c (j:=0) rfl .n)) ?_)
 rintro ⟨w36,w47⟩ -
 dsimp only [aq,nq,cq]
 refine e_one 4 (zr kr rfl rfl rfl rfl rfl sz43 rfl (.t4 .nil) ?_)
 refine zW kr<|ze<|zL ?_
 exact zx Tryz.results100 (w36,w47) trivial (zv 0 ty43 rfl rfl (.t4 .nil)) rfl (ho:=oN) ((.e (j:=0) rfl (by rw [Rat.sub_eq_add_neg]) .n):SelR _ _ _)
theorem zne {k1:Bool} {u1:Wd} {v1:Wd} {q1:Rat} {k2:Bool} {u2:Wd} {v2:Wd} {q2:Rat} (hl:yO q1+yO q2+1≤1099511627776):Con yl 99 [.agg #[u1.b,u1.l,v1.b,v1.l],.agg #[u2.b,u2.l,v2.b,v2.l]] [] [qF k1 u1 v1 q1,qF k2 u2 v2 q2] (Y:=Wd×Wd) (fun y=>True) (fun y=> .tuple #[.agg #[y.1.b,y.1.l,y.2.b,y.2.l],ya yb (if q2=0 then 14 else 0)]) (fun y=>[]) (fun y=>[qF (decide (q2≠0)) y.1 y.2 (q1 / q2)]):=by
 refine zo Tryz.func99 rfl rfl rfl (fun c=> ?_)
 show RunC _ _ _ _ _ [(0,.agg #[u1.b,u1.l,v1.b,v1.l]),(1,.agg #[u2.b,u2.l,v2.b,v2.l])] [] [qF k1 u1 v1 q1,qF k2 u2 v2 q2]
 have a1:=yC q1
 have a2:=yD q1
 have a3:=yC q2
 have a4:=yD q2
 have b1:=yQ q1.num q2.den
 have b2:=yQ (q1.den:Int) q2.num
 refine zh<|za<|zP rfl rfl (zS rfl rfl) (fun b1=> ?_)
 refine zP rfl rfl (zS rfl rfl) (fun b2=> ?_)
 refine zP rfl rfl (zn zr43 rfl) (fun b3=> ?_)
 refine e_p (zd rfl)<|zi<|ze<|zh<|zwa (.c (i:=2) rfl (.c (i:=1) rfl (.c (i:=0) rfl .n)))<|zY (OW:=[boxA b1 43 (cw [u1,v1]),boxA b2 43 (cw [u2,v2])]) (O:=[boxA b3 43 (cw [wz,wz])]) 4 mixed (.then .ret) kr<|e_uw 0 rfl rfl (zb 0 ty43 rfl rfl (.t4 .nil))<|e_uw 2 rfl rfl (zb 1 ty43 rfl rfl (.t4 .nil))<|e_one 1 (zq rfl rfl rfl rfl (.c rfl .n) ce98 (zMa (k1:=k1) (u1:=u1) (v1:=v1) (q1:=q1)) (.c (j:=0) rfl .n) ?_)
 rintro ⟨w34,w45⟩ -
 dsimp only [aq,nq,cq]
 refine e_one 3 (zq rfl rfl rfl rfl (.c rfl .n) ce98 (zMa (k1:=k2) (u1:=u2) (v1:=v2) (q1:=q2)) (.c (j:=2) rfl .n) ?_)
 rintro ⟨w36,w47⟩ -
 dsimp only [aq,nq,cq]
 refine e_one 4 (zr kr rfl rfl rfl rfl rfl sz43 rfl (.t4 .nil) ?_)
 refine zeb (zfa (i:=1) rfl)<|e_one 5 (zr kr rfl rfl rfl rfl rfl sz43 rfl (.t4 .nil) ?_)
 refine zW kr<|ze<|zh<|zh<|za<|e_p (zf yj rfl sz41 rfl rfl)<|e_ru (zb 0 ty41 rfl rfl (.t2 .nil))<|zCc (qF_open 0 rfl) (fun _ _=> ?_)
 refine zQ rfl rfl (.c rfl .n) ce120 (zYc (w1:=w36) (x1:=(q2).num)) (.c (j:=0) rfl .n)<|e_p (zxa rfl rfl)<|zi<|ze<|zJ rfl (fun hz0=> ?_) (fun hz0=> ?_)
 ·
  have hx0:q2=0:=Rat.num_eq_zero.1 (Big.sign_zero.1 hz0)
  refine zh<|za<|e_p (zK zr43 rfl yj (.c sz41 (.c sz41 .n)) .n .n)<|zm 2 rfl rfl rfl rfl rfl sz43 rfl (.t4 .nil) (.s (.s .z))<|e_p (zd rfl)<|zi<|ze<|zL<|zj<|zQb (qF false wz wz 0) (fun g _=>qF_none g) ?_
  exact zBa Tryz.results99 (wz,wz) trivial (zv 2 ty43 rfl rfl (.t4 .nil)) (zl rfl) (by rw [if_pos hx0];rfl) (ho:=oN) ((.e (j:=0) rfl (by rw [Big.div_nil hx0,decide_eq_false (not_not_intro hx0)]) .n):SelR _ _ _)
 ·
  have hx1:q2.num≠0:=fun e=>hz0 (Big.sign_zero.2 e)
  have hx0:q2≠0:=fun e=>hx1 (Rat.num_eq_zero.2 e)
  refine zC<|ze<|zh<|zwa (.c (i:=2) rfl (.c (i:=0) rfl (.c (i:=0) rfl .n)))<|zY (OW:=[boxA b3 43 (cw [wz,wz])]) (O:=[boxA b2 43 (cw [w36,w47]),boxA b1 43 (cw [w34,w45])]) 11 mixed (.then .ret) kr<|e_pv 0 rfl rfl (zf yj rfl sz41 rfl rfl)<|e_uw 1 rfl rfl (zb 2 ty41 rfl rfl (.t2 .nil))<|e_pv 2 rfl rfl (zf yj rfl sz41 rfl rfl)<|e_uw 3 rfl rfl (zb 1 ty41 rfl rfl (.s2 (.t2 .nil)))<|e_pv 5 rfl rfl (zf yj rfl sz41 rfl rfl)<|e_uw 6 rfl rfl (zb 2 ty41 rfl rfl (.s2 (.t2 .nil)))<|e_pv 7 rfl rfl (zf yj rfl sz41 rfl rfl)<|e_uw 8 rfl rfl (zb 1 ty41 rfl rfl (.t2 .nil))<|zvb (qF_open 3 rfl) (fun _ _=> ?_)
  refine e_one 4 (zq rfl rfl rfl rfl (.c rfl (.c rfl .n)) ce86 (zJb (w1:=w34) (w2:=w47) (x1:=(q1).num) (x2:=(((q2).den:Nat):Int)) (hb1:=by first|rfl|assumption|omega|(rw [yr];omega)|(decide +kernel)) (hb2:=by first|rfl|assumption|omega|(rw [yr];omega)|(decide +kernel))) (.c (j:=0) rfl (.c (j:=3) rfl .n)) ?_)
  rintro w38 -
  dsimp only [aq,nq,cq]
  refine e_one 9 (zq rfl rfl rfl rfl (.c rfl (.c rfl .n)) ce86 (zJb (w1:=w45) (w2:=w36) (x1:=(((q1).den:Nat):Int)) (x2:=(q2).num) (hb1:=by first|rfl|assumption|omega|(rw [yr];omega)|(decide +kernel)) (hb2:=by first|rfl|assumption|omega|(rw [yr];omega)|(decide +kernel))) (.c (j:=2) rfl (.c (j:=3) rfl .n)) ?_)
  rintro w39 -
  dsimp only [aq,nq,cq]
  refine e_one 10 (zq rfl rfl rfl rfl (.c rfl (.c rfl .n)) ce121 (zcc (w1:=w38) (w2:=w39) (x1:=((q1).num)*(((q2).den:Nat):Int)) (x2:=(((q1).den:Nat):Int)*((q2).num)) (hl1:=by first|rfl|assumption|omega|(rw [yr];omega)|(decide +kernel)) (hl2:=by first|rfl|assumption|omega|(rw [yr];omega)|(decide +kernel)) (hd:=by exact Int.mul_ne_zero (yT q1) hx1)) (.c (j:=1) rfl (.c (j:=0) rfl .n)) ?_)
  rintro ⟨w310,w411⟩ -
  dsimp only [aq,nq,cq]
  refine e_one 11 (zr kr rfl rfl rfl rfl rfl sz43 rfl (.t4 .nil) ?_)
  refine e_pv 12 rfl rfl (zd rfl)<|zW kr<|ze<|zL ?_
  exact zBa Tryz.results99 (w310,w411) trivial (zv 0 ty43 rfl rfl (.t4 .nil)) (zl rfl) (by rw [if_neg hx0]) (ho:=oN) ((.e (j:=0) rfl (by rw [decide_eq_true hx0,Big.div_parts hx1]) .n):SelR _ _ _)
theorem zpc {k1:Bool} {u1:Wd} {v1:Wd} {q1:Rat} {k2:Bool} {u2:Wd} {v2:Wd} {q2:Rat} (hl:yO q1+yO q2+1≤1099511627776) (hy:q2≠0):Con yl 99 [.agg #[u1.b,u1.l,v1.b,v1.l],.agg #[u2.b,u2.l,v2.b,v2.l]] [] [qF k1 u1 v1 (q1),qF k2 u2 v2 (q2)] (Y:=(Wd)×(Wd)) (fun y=>True) (fun y=> .tuple #[.agg #[y.1.b,y.1.l,y.2.b,y.2.l],ya yb (0)]) (fun y=>[]) (fun y=>[qF true y.1 y.2 (q1 / q2)]):=by
  have h:= @zne k1 u1 v1 q1 k2 u2 v2 q2 hl
  rw [if_neg hy,decide_eq_true hy] at h
  exact h
end Go.Proofs.YtjcpbhlijoigfaaGreat.Sp
namespace Go.Proofs.YtjcpbhlijoigfaaGreat.Sp
open Go
set_option linter.unusedVariables false
set_option maxRecDepth 100000
set_option maxHeartbeats 2000000
theorem zjb {ex:Int} {ey:Int} (hwex: -9223372036854775808≤ex∧ex≤9223372036854775807) (hwey: -9223372036854775808≤ey∧ey≤9223372036854775807):Con yl 56 [ya yb ex,ya yb ey] [] [] (Y:=Wd×Wd×Wd×Wd) (fun y=>True) (fun y=> .agg #[y.1.b,y.1.l,y.2.1.b,y.2.1.l,y.2.2.1.b,y.2.2.1.l,y.2.2.2.b,y.2.2.2.l]) (fun y=>[]) (fun y=>[qF true y.1 y.2.1 ((Pg.pq ex ey).1),qF true y.2.2.1 y.2.2.2 ((Pg.pq ex ey).2)]):=by
 refine zo Tryz.func56 rfl rfl rfl (fun c=> ?_)
 show RunC _ _ _ _ _ [(0,ya yb ex),(1,ya yb ey)] [] []
 refine zh<|za<|zP rfl rfl (zn zr69 rfl) (fun b1=> ?_)
 refine zi<|ze<|zh<|za<|e_mv rfl<|zG rfl rfl (.c rfl .n) ce93 (zZc (z:=ex) (hz:=ass)) (.n) ?_
 rintro ⟨w32,w43⟩ -
 dsimp only [aq,nq,cq]
 refine e_mv rfl<|zG rfl rfl (.c rfl .n) ce93 (zZc (z:=ey) (hz:=ass)) (.n) ?_
 rintro ⟨w34,w45⟩ -
 dsimp only [aq,nq,cq]
 refine e_p (zK zr69 rfl yn (.c sz43 (.c sz43 .n)) (.c rfl (.c rfl .n)) (.c rfl rfl rfl (.t4 .nil) (.c rfl rfl rfl (.s4 (.t4 .nil)) .n)))<|zm 0 rfl rfl rfl rfl rfl sz69 rfl (.t8 .nil) .z<|zi<|ze<|zL ?_
 exact zx Tryz.results56 (w32,w43,w34,w45) trivial (zv 0 ty69 rfl rfl (.t8 .nil)) rfl (ho:=oN) ((.e (j:=1) rfl (by first|rfl|exact id) (.e (j:=0) rfl (by first|rfl|exact id) .n)):SelR _ _ _)
theorem zoe {wa0:Wd} {wa1:Wd} {wa2:Wd} {wa3:Wd} {qa:Pg.Q2} {wb0:Wd} {wb1:Wd} {wb2:Wd} {wb3:Wd} {qb:Pg.Q2} {K:Nat} {K2:Nat} (hpa:Pg.hp K qa) (hpb:Pg.hp K2 qb) (hK:2*(K+K2)+1≤1000000):Con yl 95 [.agg #[wa0.b,wa0.l,wa1.b,wa1.l,wa2.b,wa2.l,wa3.b,wa3.l],.agg #[wb0.b,wb0.l,wb1.b,wb1.l,wb2.b,wb2.l,wb3.b,wb3.l]] [] [qF true wa0 wa1 (qa.1),qF true wa2 wa3 (qa.2),qF true wb0 wb1 (qb.1),qF true wb2 wb3 (qb.2)] (Y:=Wd×Wd) (fun y=>True) (fun y=> .agg #[y.1.b,y.1.l,y.2.b,y.2.l]) (fun y=>[]) (fun y=>[qF true y.1 y.2 (Pg.prq qa qb)]):=by
 refine zo Tryz.func95 rfl rfl rfl (fun c=> ?_)
 show RunC _ _ _ _ _ [(0,.agg #[wa0.b,wa0.l,wa1.b,wa1.l,wa2.b,wa2.l,wa3.b,wa3.l]),(1,.agg #[wb0.b,wb0.l,wb1.b,wb1.l,wb2.b,wb2.l,wb3.b,wb3.l])] [] [qF true wa0 wa1 (qa.1),qF true wa2 wa3 (qa.2),qF true wb0 wb1 (qb.1),qF true wb2 wb3 (qb.2)]
 obtain ⟨hb1,hb2,hb3⟩:=Pg.pb hpa hpb
 obtain ⟨ha1,ha2⟩:=id hpa
 obtain ⟨ha3,ha4⟩:=id hpb
 refine zh<|za<|zP rfl rfl (zS rfl rfl) (fun b1=> ?_)
 refine zP rfl rfl (zS rfl rfl) (fun b2=> ?_)
 refine zP rfl rfl (zn zr43 rfl) (fun b3=> ?_)
 refine zi<|ze<|zh<|zY (OW:=[boxA b3 43 (cw [wz,wz])]) (O:=[boxA b2 69 (cw [wb0,wb1,wb2,wb3]),boxA b1 69 (cw [wa0,wa1,wa2,wa3])]) 11 mixed (.then .ret) kr<|e_pv 0 rfl rfl (zf yn rfl sz43 rfl rfl)<|e_uw 1 rfl rfl (zb 2 ty43 rfl rfl (.t4 .nil))<|e_pv 2 rfl rfl (zf yn rfl sz43 rfl rfl)<|e_uw 3 rfl rfl (zb 1 ty43 rfl rfl (.s4 (.t4 .nil)))<|e_pv 5 rfl rfl (zf yn rfl sz43 rfl rfl)<|e_uw 6 rfl rfl (zb 1 ty43 rfl rfl (.t4 .nil))<|e_pv 7 rfl rfl (zf yn rfl sz43 rfl rfl)<|e_uw 8 rfl rfl (zb 2 ty43 rfl rfl (.s4 (.t4 .nil)))<|e_one 4 (zq rfl rfl rfl rfl (.c rfl (.c rfl .n)) ce102 (zMc (k1:=true) (u1:=wa0) (v1:=wa1) (q1:=qa.1) (k2:=true) (u2:=wb2) (v2:=wb3) (q2:=qb.2) (hl:=cbo)) (.c (j:=0) rfl (.c (j:=3) rfl .n)) ?_)
 rintro ⟨w34,w45⟩ -
 dsimp only [aq,nq,cq]
 refine e_one 9 (zq rfl rfl rfl rfl (.c rfl (.c rfl .n)) ce102 (zMc (k1:=true) (u1:=wb0) (v1:=wb1) (q1:=qb.1) (k2:=true) (u2:=wa2) (v2:=wa3) (q2:=qa.2) (hl:=cbo)) (.c (j:=3) rfl (.c (j:=2) rfl .n)) ?_)
 rintro ⟨w36,w47⟩ -
 dsimp only [aq,nq,cq]
 refine e_one 10 (zq rfl rfl rfl rfl (.c rfl (.c rfl .n)) ce100 (zoc (k1:=true) (u1:=w34) (v1:=w45) (q1:=qa.1*qb.2) (k2:=true) (u2:=w36) (v2:=w47) (q2:=qb.1*qa.2) (hl:=cbo)) (.c (j:=1) rfl (.c (j:=0) rfl .n)) ?_)
 rintro ⟨w38,w49⟩ -
 dsimp only [aq,nq,cq]
 refine e_one 11 (zr kr rfl rfl rfl rfl rfl sz43 rfl (.t4 .nil) ?_)
 refine zW kr<|ze<|zL ?_
 exact zx Tryz.results95 (w38,w49) trivial (zv 0 ty43 rfl rfl (.t4 .nil)) rfl (ho:=oN) ((.e (j:=0) rfl (by first|rfl|exact id) .n):SelR _ _ _)
theorem zzd {wa0:Wd} {wa1:Wd} {wa2:Wd} {wa3:Wd} {qa:Pg.Q2} {wb0:Wd} {wb1:Wd} {wb2:Wd} {wb3:Wd} {qb:Pg.Q2} {K:Nat} {K2:Nat} (hpa:Pg.hp K qa) (hpb:Pg.hp K2 qb) (hK:K+K2+1≤1000000):Con yl 96 [.agg #[wa0.b,wa0.l,wa1.b,wa1.l,wa2.b,wa2.l,wa3.b,wa3.l],.agg #[wb0.b,wb0.l,wb1.b,wb1.l,wb2.b,wb2.l,wb3.b,wb3.l]] [] [qF true wa0 wa1 (qa.1),qF true wa2 wa3 (qa.2),qF true wb0 wb1 (qb.1),qF true wb2 wb3 (qb.2)] (Y:=Wd×Wd×Wd×Wd) (fun y=>True) (fun y=> .agg #[y.1.b,y.1.l,y.2.1.b,y.2.1.l,y.2.2.1.b,y.2.2.1.l,y.2.2.2.b,y.2.2.2.l]) (fun y=>[]) (fun y=>[qF true y.1 y.2.1 ((yP qa qb).1),qF true y.2.2.1 y.2.2.2 ((yP qa qb).2)]):=by
 refine zo Tryz.func96 rfl rfl rfl (fun c=> ?_)
 show RunC _ _ _ _ _ [(0,.agg #[wa0.b,wa0.l,wa1.b,wa1.l,wa2.b,wa2.l,wa3.b,wa3.l]),(1,.agg #[wb0.b,wb0.l,wb1.b,wb1.l,wb2.b,wb2.l,wb3.b,wb3.l])] [] [qF true wa0 wa1 (qa.1),qF true wa2 wa3 (qa.2),qF true wb0 wb1 (qb.1),qF true wb2 wb3 (qb.2)]
 obtain ⟨ha1,ha2⟩:=id hpa
 obtain ⟨ha3,ha4⟩:=id hpb
 refine zh<|za<|zP rfl rfl (zS rfl rfl) (fun b1=> ?_)
 refine zP rfl rfl (zS rfl rfl) (fun b2=> ?_)
 refine zP rfl rfl (zn zr69 rfl) (fun b3=> ?_)
 refine zi<|ze<|zh<|zY (OW:=[boxA b3 69 (cw [wz,wz,wz,wz])]) (O:=[boxA b2 69 (cw [wb0,wb1,wb2,wb3]),boxA b1 69 (cw [wa0,wa1,wa2,wa3])]) 11 mixed (.then .ret) kr<|e_pv 0 rfl rfl (zf yn rfl sz43 rfl rfl)<|e_uw 1 rfl rfl (zb 1 ty43 rfl rfl (.t4 .nil))<|e_pv 2 rfl rfl (zf yn rfl sz43 rfl rfl)<|e_uw 3 rfl rfl (zb 2 ty43 rfl rfl (.t4 .nil))<|e_pv 5 rfl rfl (zf yn rfl sz43 rfl rfl)<|e_uw 6 rfl rfl (zb 1 ty43 rfl rfl (.s4 (.t4 .nil)))<|e_pv 7 rfl rfl (zf yn rfl sz43 rfl rfl)<|e_uw 8 rfl rfl (zb 2 ty43 rfl rfl (.s4 (.t4 .nil)))<|e_one 4 (zq rfl rfl rfl rfl (.c rfl (.c rfl .n)) ce100 (zoc (k1:=true) (u1:=wb0) (v1:=wb1) (q1:=qb.1) (k2:=true) (u2:=wa0) (v2:=wa1) (q2:=qa.1) (hl:=cbo)) (.c (j:=2) rfl (.c (j:=0) rfl .n)) ?_)
 rintro ⟨w34,w45⟩ -
 dsimp only [aq,nq,cq]
 refine e_one 9 (zq rfl rfl rfl rfl (.c rfl (.c rfl .n)) ce100 (zoc (k1:=true) (u1:=wb2) (v1:=wb3) (q1:=qb.2) (k2:=true) (u2:=wa2) (v2:=wa3) (q2:=qa.2) (hl:=cbo)) (.c (j:=4) rfl (.c (j:=2) rfl .n)) ?_)
 rintro ⟨w36,w47⟩ -
 dsimp only [aq,nq,cq]
 refine e_pv 10 rfl rfl (zK zr69 rfl yn (.c sz43 (.c sz43 .n)) (.c rfl (.c rfl .n)) (.c rfl rfl rfl (.t4 .nil) (.c rfl rfl rfl (.s4 (.t4 .nil)) .n)))<|e_one 11 (zr kr rfl rfl rfl rfl rfl sz69 rfl (.t8 .nil) ?_)
 refine zW kr<|ze<|zL ?_
 exact zx Tryz.results96 (w34,w45,w36,w47) trivial (zv 0 ty69 rfl rfl (.t8 .nil)) rfl (ho:=oN) ((.e (j:=1) rfl (by first|rfl|exact id) (.e (j:=0) rfl (by first|rfl|exact id) .n)):SelR _ _ _)
theorem zob {ba:Nat} {bb:Nat} {wa0:Wd} {wa1:Wd} {wa2:Wd} {wa3:Wd} {qa:Pg.Q2} {wb0:Wd} {wb1:Wd} {wb2:Wd} {wb3:Wd} {qb:Pg.Q2} {wd0:Wd} {wd1:Wd} {wd2:Wd} {wd3:Wd} {qd:Pg.Q2} {K:Nat} (hpa:Pg.hp 3 qa) (hpb:Pg.hp 3 qb) (hpd:Pg.hp K qd) (hK:2*K+23≤1000000):Con yl 94 [.agg #[wd0.b,wd0.l,wd1.b,wd1.l,wd2.b,wd2.l,wd3.b,wd3.l],yc (some ⟨ba,0,none⟩),yc (some ⟨bb,0,none⟩)] [] [atF ba 0 [wa0.b,wa0.l,wa1.b,wa1.l,wa2.b,wa2.l,wa3.b,wa3.l],atF bb 0 [wb0.b,wb0.l,wb1.b,wb1.l,wb2.b,wb2.l,wb3.b,wb3.l],qF true wa0 wa1 (qa.1),qF true wa2 wa3 (qa.2),qF true wb0 wb1 (qb.1),qF true wb2 wb3 (qb.2),qF true wd0 wd1 (qd.1),qF true wd2 wd3 (qd.2)] (Y:=Wd×Wd) (fun y=>True) (fun y=> .agg #[y.1.b,y.1.l,y.2.b,y.2.l]) (fun y=>[]) (fun y=>[qF true y.1 y.2 (yE qa qb qd)]):=by
 refine zo Tryz.func94 rfl rfl rfl (fun c=> ?_)
 show RunC _ _ _ _ _ [(0,.agg #[wd0.b,wd0.l,wd1.b,wd1.l,wd2.b,wd2.l,wd3.b,wd3.l]),(1,yc (some ⟨ba,0,none⟩)),(2,yc (some ⟨bb,0,none⟩))] [] [atF ba 0 [wa0.b,wa0.l,wa1.b,wa1.l,wa2.b,wa2.l,wa3.b,wa3.l],atF bb 0 [wb0.b,wb0.l,wb1.b,wb1.l,wb2.b,wb2.l,wb3.b,wb3.l],qF true wa0 wa1 (qa.1),qF true wa2 wa3 (qa.2),qF true wb0 wb1 (qb.1),qF true wb2 wb3 (qb.2),qF true wd0 wd1 (qd.1),qF true wd2 wd3 (qd.2)]
 refine zh<|za<|zP rfl rfl (zS rfl rfl) (fun b1=> ?_)
 refine zP rfl rfl (zn zr43 rfl) (fun b2=> ?_)
 refine zi<|ze<|zh<|zY (OW:=[boxA b2 43 (cw [wz,wz])]) (O:=[boxA b1 69 (cw [wd0,wd1,wd2,wd3])]) 7 mixed (.then .ret) kr<|e_u 0 rfl rfl (zt (j:=0) 0 ty69 rfl rfl rfl (.t8 .nil))<|e_u 1 rfl rfl (zt (j:=0) 1 ty69 rfl rfl rfl (.t8 .nil))<|e_u 3 rfl rfl (zt (j:=0) 0 ty69 rfl rfl rfl (.t8 .nil))<|e_uw 4 rfl rfl (zb 1 ty69 rfl rfl (.t8 .nil))<|e_one 2 (zq rfl rfl rfl rfl (.c rfl (.c rfl .n)) ce96 (zzd (wa0:=wa0) (wa1:=wa1) (wa2:=wa2) (wa3:=wa3) (qa:=qa) (wb0:=wb0) (wb1:=wb1) (wb2:=wb2) (wb3:=wb3) (qb:=qb) (K:=3) (K2:=3) (hpa:=ass) (hpb:=ass) (hK:=by first|rfl|assumption|omega|exact yF hpa hpb|exact yF hpa hpd)) (.c (j:=2) rfl (.c (j:=3) rfl (.c (j:=4) rfl (.c (j:=5) rfl .n)))) ?_)
 rintro ⟨wr03,wr14,wr25,wr36⟩ -
 dsimp only [aq,nq,cq]
 refine e_one 5 (zq rfl rfl rfl rfl (.c rfl (.c rfl .n)) ce96 (zzd (wa0:=wa0) (wa1:=wa1) (wa2:=wa2) (wa3:=wa3) (qa:=qa) (wb0:=wd0) (wb1:=wd1) (wb2:=wd2) (wb3:=wd3) (qb:=qd) (K:=3) (K2:=K) (hpa:=ass) (hpb:=ass) (hK:=by first|rfl|assumption|omega|exact yF hpa hpb|exact yF hpa hpd)) (.c (j:=4) rfl (.c (j:=5) rfl (.c (j:=8) rfl (.c (j:=9) rfl .n)))) ?_)
 rintro ⟨wr07,wr18,wr29,wr310⟩ -
 dsimp only [aq,nq,cq]
 refine e_one 6 (zq rfl rfl rfl rfl (.c rfl (.c rfl .n)) ce95 (zoe (wa0:=wr03) (wa1:=wr14) (wa2:=wr25) (wa3:=wr36) (qa:=(yP qa qb)) (wb0:=wr07) (wb1:=wr18) (wb2:=wr29) (wb3:=wr310) (qb:=(yP qa qd)) (K:=(3+3+1)) (K2:=(3+K+1)) (hpa:=by first|rfl|assumption|omega|exact yF hpa hpb|exact yF hpa hpd) (hpb:=by first|rfl|assumption|omega|exact yF hpa hpb|exact yF hpa hpd) (hK:=by first|rfl|assumption|omega|exact yF hpa hpb|exact yF hpa hpd)) (.c (j:=2) rfl (.c (j:=3) rfl (.c (j:=0) rfl (.c (j:=1) rfl .n)))) ?_)
 rintro ⟨w311,w412⟩ -
 dsimp only [aq,nq,cq]
 refine e_one 7 (zr kr rfl rfl rfl rfl rfl sz43 rfl (.t4 .nil) ?_)
 refine zW kr<|ze<|zL ?_
 exact zx Tryz.results94 (w311,w412) trivial (zv 0 ty43 rfl rfl (.t4 .nil)) rfl (ho:=oN) ((.e (j:=0) rfl (by first|rfl|exact id) .n):SelR _ _ _)
theorem zNc {p:Option Addr} {n:Nat} {cap:Nat} {l:List Pg.Q2} {wa0:Wd} {wa1:Wd} {wa2:Wd} {wa3:Wd} {qa:Pg.Q2} {wb0:Wd} {wb1:Wd} {wb2:Wd} {wb3:Wd} {qb:Pg.Q2} {K:Nat} (hn:l.length=n) (hpa:Pg.hp 3 qa) (hpb:Pg.hp 3 qb) (hbq:Pg.bq K l) (hK:9*K+72≤500000) (hnK:n≤100000):Con yl 58 [.slice p n cap,.agg #[wa0.b,wa0.l,wa1.b,wa1.l,wa2.b,wa2.l,wa3.b,wa3.l],.agg #[wb0.b,wb0.l,wb1.b,wb1.l,wb2.b,wb2.l,wb3.b,wb3.l]] [] [slF rR p cap l,qF true wa0 wa1 (qa.1),qF true wa2 wa3 (qa.2),qF true wb0 wb1 (qb.1),qF true wb2 wb3 (qb.2)] (Y:=(Option Addr)×Nat) (fun y=>True) (fun y=> .slice (y.1) ((Pg.clL qa qb l).length) (y.2)) (fun y=>[rowA 69 rR (y.1) (y.2) (Pg.clL qa qb l)]) (fun y=>[]):=by
 refine zo Tryz.func58 rfl rfl rfl (fun c=> ?_)
 show RunC _ _ _ _ _ [(0,.slice p n cap),(1,.agg #[wa0.b,wa0.l,wa1.b,wa1.l,wa2.b,wa2.l,wa3.b,wa3.l]),(2,.agg #[wb0.b,wb0.l,wb1.b,wb1.l,wb2.b,wb2.l,wb3.b,wb3.l])] [] [slF rR p cap l,qF true wa0 wa1 (qa.1),qF true wa2 wa3 (qa.2),qF true wb0 wb1 (qb.1),qF true wb2 wb3 (qb.2)]
 refine zea 0 rfl (fun hL0=> ?_)
 refine zh<|za<|zP rfl rfl (zS rfl rfl) (fun b1=> ?_)
 refine zP rfl rfl (zS rfl rfl) (fun b2=> ?_)
 refine e_p (zd rfl)<|zi<|ze<|zh<|zic 1 rfl (.s .z)<|zic 0 rfl .z<|za<|e_p (zcb .n (.c rfl (.c rfl .n)))<|e_p (zd rfl)<|zi<|ze<|zh<|za<|e_p (zd rfl)<|zi<|ze<|zh<|zh<|zqb 69 rR<|za<|e_mv rfl<|e_p (zR yv rfl)<|e_mv rfl<|zi<|ze<|zE<|zra (X:=Nat×(Option Addr)×Nat) (fun x:Nat×(Option Addr)×Nat=>x.1≤n) (fun x=>[(8,.slice (x.2.1) ((yt n qa qb l x.1).length) (x.2.2)),(20,ya yb ((x.1:Nat):Int)),(19,ya yb ((n:Nat):Int)),(18,.slice p n cap),(7,.func (.func 94) #[] #[yc (some ⟨b1,0,none⟩),yc (some ⟨b2,0,none⟩)]),(0,.slice p n cap)]) (fun x=>[rowA 69 rR (x.2.1) (x.2.2) (yt n qa qb l x.1)]) (fun x=>[atF b2 0 [wb0.b,wb0.l,wb1.b,wb1.l,wb2.b,wb2.l,wb3.b,wb3.l],atF b1 0 [wa0.b,wa0.l,wa1.b,wa1.l,wa2.b,wa2.l,wa3.b,wa3.l],slF rR p cap l,qF true wa0 wa1 (qa.1),qF true wa2 wa3 (qa.2),qF true wb0 wb1 (qb.1),qF true wb2 wb3 (qb.2)]) (fun x:Nat×(Option Addr)×Nat=>n - x.1) (0,none,0) (show 0≤n from by exact Nat.zero_le _) ((.e rfl cgs (.e rfl cgs (.of rfl))):SubM _ _) (ho:=((.e (i:=0) rfl cgs .n):PickO _ _ _)) ((.of [0,1,2,3,4,5,6] rfl):SelR _ _ _) ?_
 rintro ⟨i,p7,c7⟩ hI
 replace hI:i≤n:=hI
 try dsimp only
 refine zh<|za<|e_p (zda rfl rfl)<|zi<|ze<|zh<|zJ rfl (fun h3=> ?_) (fun h3=> ?_)
 ·
  have hm1:(i+1)%n<n:=Nat.mod_lt _ om
  have hpi:Pg.hp K (ym l i):=Pg.bq_at hbq om
  have hpj:Pg.hp K (ym l ((i+1)%n)):=Pg.bq_at hbq om
  have hsi:=Pg.hq_sdq hpa hpb hpi
  have hsj:=Pg.hq_sdq hpa hpb hpj
  obtain ⟨hpi1,hpi2⟩:=id hpi
  obtain ⟨hpj1,hpj2⟩:=id hpj
  have hsg:=Pg.sg_mul (yE qa qb (ym l i)) (yE qa qb (ym l ((i+1)%n)))
  have hcl:=Pg.clN_len (n:=n) (a:=qa) (b:=qb) (l:=l) i
  refine zC<|ze<|zh<|zE<|zh<|za<|e_mv rfl<|r_vl rfl rfl (zIa (x0:=(ym l i)) 2 i rfl yv sz69 rfl cbs rfl rfl (gD (d:=((0:Rat),(0:Rat))) om)) ?_
  rintro ⟨b4,o5,w6,w7,w8,w9⟩ -
  dsimp only [aq,nq,cq]
  refine zKd open_rR<|e_ru (zt (j:=0) 0 ty69 rfl rfl rfl (.t8 .nil))<|zP rfl rfl (zn zr69 rfl) (fun b10=> ?_)
  refine e_p (zd rfl)<|zm 0 rfl rfl rfl rfl rfl sz69 rfl (.t8 .nil) .z<|zi<|ze<|zh<|za<|e_mv rfl<|e_mv rfl<|e_p (zO (z:=(((i+1):Nat):Int)) rfl rfl (w64 om))<|e_mv rfl<|e_p (zR yv rfl)<|e_p (zza (z:=((((i+1)%n):Nat):Int)) rfl rfl om (remN om om))<|r_vl rfl rfl (zIa (x0:=(ym l ((i+1)%n))) 5 ((i+1)%n) rfl yv sz69 rfl cbs rfl rfl (gD (d:=((0:Rat),(0:Rat))) om)) ?_
  rintro ⟨b11,o12,w13,w14,w15,w16⟩ -
  dsimp only [aq,nq,cq]
  refine zKd open_rR<|e_ru (zt (j:=0) 0 ty69 rfl rfl rfl (.t8 .nil))<|zP rfl rfl (zn zr69 rfl) (fun b17=> ?_)
  refine zm 0 rfl rfl rfl rfl rfl sz69 rfl (.t8 .nil) .z<|zi<|ze<|zh<|zY (OW:=[]) (O:=[boxA b17 69 (cw [w13,w14,w15,w16]),boxA b10 69 (cw [w6,w7,w8,w9]),rowA 69 rR p7 c7 (yt n qa qb l i)]) 8 mixed (.then (.block (.then (.then (.block (.then .ret)))))) kr<|e_dm 0 rfl rfl rfl<|e_u 1 rfl rfl (zb 1 ty69 rfl rfl (.t8 .nil))<|e_dm 3 rfl rfl rfl<|e_u 4 rfl rfl (zb 0 ty69 rfl rfl (.t8 .nil))<|zNb (m':=[(37,.agg (cw [w13,w14,w15,w16]).toArray),(36,.func (.func 94) #[] #[yc (some ⟨b1,0,none⟩),yc (some ⟨b2,0,none⟩)]),(34,.agg (cw [w6,w7,w8,w9]).toArray),(33,.func (.func 94) #[] #[yc (some ⟨b1,0,none⟩),yc (some ⟨b2,0,none⟩)]),(11,yc (some ⟨b17,0,none⟩)),(10,yc (some ⟨b10,0,none⟩)),(8,.slice p7 ((yt n qa qb l i).length) c7),(20,ya yb ((i:Nat):Int)),(19,ya yb ((n:Nat):Int)),(18,.slice p n cap),(7,.func (.func 94) #[] #[yc (some ⟨b1,0,none⟩),yc (some ⟨b2,0,none⟩)]),(0,.slice p n cap)]) (R':=[qF true w13 w14 ((ym l ((i+1)%n)).1),qF true w15 w16 ((ym l ((i+1)%n)).2),qF true w6 w7 ((ym l i).1),qF true w8 w9 ((ym l i).2),atF b2 0 [wb0.b,wb0.l,wb1.b,wb1.l,wb2.b,wb2.l,wb3.b,wb3.l],atF b1 0 [wa0.b,wa0.l,wa1.b,wa1.l,wa2.b,wa2.l,wa3.b,wa3.l],slF rR p cap l,qF true wa0 wa1 (qa.1),qF true wa2 wa3 (qa.2),qF true wb0 wb1 (qb.1),qF true wb2 wb3 (qb.2)]) (mR rfl) (List.Perm.refl _) (List.Perm.refl _) ((.of [1,2,4,5,6,7,8,9,10,11,12] rfl):SelR _ _ _)<|zca (X:=Wd×Wd×Wd×Wd×Nat×Nat) (k':=0) (L':=(lb 10 1023)) (fun (u2_1,u2_2,u5_1,u5_2,u6_1,u7_1)=>([(13,yc (some ⟨u7_1,0,none⟩)),(12,yc (some ⟨u6_1,0,none⟩)),(11,yc (some ⟨b17,0,none⟩)),(10,yc (some ⟨b10,0,none⟩)),(8,.slice p7 ((yt n qa qb l i).length) c7),(20,ya yb ((i:Nat):Int)),(19,ya yb ((n:Nat):Int)),(18,.slice p n cap),(7,.func (.func 94) #[] #[yc (some ⟨b1,0,none⟩),yc (some ⟨b2,0,none⟩)]),(0,.slice p n cap)],[boxA u7_1 43 (cw [u5_1,u5_2]),boxA u6_1 43 (cw [u2_1,u2_2])],[boxA b17 69 (cw [w13,w14,w15,w16]),boxA b10 69 (cw [w6,w7,w8,w9]),rowA 69 rR p7 c7 (yt n qa qb l i)],[qF true u5_1 u5_2 (yE qa qb (ym l ((i+1)%n))),qF true u2_1 u2_2 (yE qa qb (ym l i)),qF true w13 w14 ((ym l ((i+1)%n)).1),qF true w15 w16 ((ym l ((i+1)%n)).2),qF true w6 w7 ((ym l i).1),qF true w8 w9 ((ym l i).2),atF b2 0 [wb0.b,wb0.l,wb1.b,wb1.l,wb2.b,wb2.l,wb3.b,wb3.l],atF b1 0 [wa0.b,wa0.l,wa1.b,wa1.l,wa2.b,wa2.l,wa3.b,wa3.l],slF rR p cap l,qF true wa0 wa1 (qa.1),qF true wa2 wa3 (qa.2),qF true wb0 wb1 (qb.1),qF true wb2 wb3 (qb.2)])) ?_ (fun hD0=> ?_)
  ·
   rintro ⟨u2_1,u2_2,u5_1,u5_2,u6_1,u7_1⟩
   dsimp only [cw]
   refine zW kr<|ze ?_
   obtain ⟨sv,hsv⟩:∃z:Rat,z=yE qa qb (ym l i):=⟨_,rfl⟩
   rw [← hsv]
   obtain ⟨tv,htv⟩:∃z:Rat,z=yE qa qb (ym l ((i+1)%n)):=⟨_,rfl⟩
   rw [← htv]
   simp only [← hsv,←htv] at hsi hsj hsg
   refine zGa (X:=(List Pg.Q2)×(Option Addr)×Nat) (fun x=>x.1=yt n qa qb l i++(if 0≤Big.sgq sv then [(ym l i)] else [])) (fun x=>[(8,.slice (x.2.1) (x.1.length) (x.2.2)),(13,yc (some ⟨u7_1,0,none⟩)),(12,yc (some ⟨u6_1,0,none⟩)),(11,yc (some ⟨b17,0,none⟩)),(10,yc (some ⟨b10,0,none⟩)),(20,ya yb ((i:Nat):Int)),(19,ya yb ((n:Nat):Int)),(18,.slice p n cap),(7,.func (.func 94) #[] #[yc (some ⟨b1,0,none⟩),yc (some ⟨b2,0,none⟩)]),(0,.slice p n cap)]) (fun x=>[boxA u7_1 43 (cw [u5_1,u5_2]),boxA u6_1 43 (cw [u2_1,u2_2]),boxA b17 69 (cw [w13,w14,w15,w16]),boxA b10 69 (cw [w6,w7,w8,w9]),rowA 69 rR (x.2.1) (x.2.2) (x.1)]) (fun x=>[qF true u5_1 u5_2 tv,qF true u2_1 u2_2 sv,qF true w13 w14 ((ym l ((i+1)%n)).1),qF true w15 w16 ((ym l ((i+1)%n)).2),qF true w6 w7 ((ym l i).1),qF true w8 w9 ((ym l i).2),atF b2 0 [wb0.b,wb0.l,wb1.b,wb1.l,wb2.b,wb2.l,wb3.b,wb3.l],atF b1 0 [wa0.b,wa0.l,wa1.b,wa1.l,wa2.b,wa2.l,wa3.b,wa3.l],slF rR p cap l,qF true wa0 wa1 (qa.1),qF true wa2 wa3 (qa.2),qF true wb0 wb1 (qb.1),qF true wb2 wb3 (qb.2)]) ?_ ?_
   ·
    refine zh<|za<|e_ru (zb 1 ty43 rfl rfl (.t4 .nil))<|zQ rfl rfl (.c rfl .n) ce97 (zad (k1:=true) (u1:=u2_1) (v1:=u2_2) (q1:=sv)) (.c (j:=1) rfl .n)<|e_p (zNa rfl rfl)<|zi<|ze<|zJ rfl (fun hin=> ?_) (fun hin=> ?_)
    ·
     refine zwa (.c (i:=4) rfl (.c (i:=0) rfl (.c (i:=0) rfl (.c (i:=0) rfl (.c (i:=0) rfl .n)))))<|zY (OW:=[rowA 69 rR p7 c7 (yt n qa qb l i)]) (O:=[boxA u7_1 43 (cw [u5_1,u5_2]),boxA u6_1 43 (cw [u2_1,u2_2]),boxA b17 69 (cw [w13,w14,w15,w16]),boxA b10 69 (cw [w6,w7,w8,w9])]) 9 mixed (.then (.block (.then (.then (.block (.then .ret)))))) kr<|e_dm 0 rfl rfl rfl<|e_pv 1 rfl rfl (zf yn rfl sz43 rfl rfl)<|e_uw 2 rfl rfl (zb 4 ty43 rfl rfl (.t4 .nil))<|e_pv 4 rfl rfl (zf yn rfl sz43 rfl rfl)<|e_uw 5 rfl rfl (zb 4 ty43 rfl rfl (.s4 (.t4 .nil)))<|e_one 3 (zq rfl rfl rfl rfl (.c rfl .n) ce98 (zMa (k1:=true) (u1:=w6) (v1:=w7) (q1:=(ym l i).1)) (.c (j:=4) rfl .n) ?_)
     rintro ⟨w318,w419⟩ -
     dsimp only [aq,nq,cq]
     refine e_one 6 (zq rfl rfl rfl rfl (.c rfl .n) ce98 (zMa (k1:=true) (u1:=w8) (v1:=w9) (q1:=(ym l i).2)) (.c (j:=6) rfl .n) ?_)
     rintro ⟨w320,w421⟩ -
     dsimp only [aq,nq,cq]
     refine e_pv 7 rfl rfl (zK zr69 rfl yn (.c sz43 (.c sz43 .n)) (.c rfl (.c rfl .n)) (.c rfl rfl rfl (.t4 .nil) (.c rfl rfl rfl (.s4 (.t4 .nil)) .n)))<|e_one 8 (zif rfl rfl rfl rfl (zPa (r:=rR) (k:=1) yv inf69 rfl dd dd dd (.c (x:=(((ym l i).1),((ym l i).2))) (cs:=[w318.b,w318.l,w419.b,w419.l,w320.b,w320.l,w421.b,w421.l]) (w318,w419,w320,w421) rfl rfl rfl (fun g hr=>⟨Holds.get 1 rfl hr,Holds.get 0 rfl hr⟩) .n)) (fun b22 _=> ?_))
     refine zWb 0 rfl .z<|e_one 9 (zae (A':=fun v:Option Addr×Nat=>rowA 69 rR v.1 v.2 ((yt n qa qb l i)++([(((ym l i).1),((ym l i).2))]))) kr rfl rfl rfl (zua 0 rfl yv inf69 dd rfl rfl cbs rfl cbs om om) ?_)
     rintro ⟨p23,c24⟩ -
     dsimp only [aq,nq,cq]
     refine e_pv 10 rfl rfl (zd rfl)<|zW kr ?_
     exact zha (((yt n qa qb l i)++([(((ym l i).1),((ym l i).2))])),p23,c24) (show ((yt n qa qb l i)++([(((ym l i).1),((ym l i).2))]))=yt n qa qb l i++(if 0≤Big.sgq sv then [(ym l i)] else []) from by rw [if_pos hin]) ((.e rfl cgs (.of rfl)):SubM _ _) (ho:=((.of [2,2,2,2,0] rfl):PickO _ _ _)) ((.of [3,4,5,6,7,8,9,10,11,12,13,14,15] rfl):SelR _ _ _)
    ·
     refine zC ?_
     exact zha ((yt n qa qb l i),p7,c7) (show (yt n qa qb l i)=yt n qa qb l i++(if 0≤Big.sgq sv then [(ym l i)] else []) from by rw [if_neg hin,List.append_nil]) (mR rfl) (ho:=((.of [0,0,0,0,0] rfl):PickO _ _ _)) ((.of [0,1,2,3,4,5,6,7,8,9,10,11,12] rfl):SelR _ _ _)
   ·
    rintro ⟨o2,p5,c5⟩ ho2
    replace ho2:o2=yt n qa qb l i++(if 0≤Big.sgq sv then [(ym l i)] else []):=ho2
    dsimp only [cw]
    have ho2l:o2.length≤2*i+1:=by rw [ho2,List.length_append];split <;> simp <;> omega
    refine zh<|zY (OW:=[]) (O:=[boxA u7_1 43 (cw [u5_1,u5_2]),boxA u6_1 43 (cw [u2_1,u2_2]),boxA b17 69 (cw [w13,w14,w15,w16]),boxA b10 69 (cw [w6,w7,w8,w9]),rowA 69 rR p5 c5 o2]) 100000 mixed (.then (.block (.then (.then (.block (.then .ret)))))) kr<|e_u 0 rfl rfl (zb 1 ty43 rfl rfl (.t4 .nil))<|e_u 2 rfl rfl (zb 0 ty43 rfl rfl (.t4 .nil))<|e_one 1 (zta rfl rfl rfl rfl (.c rfl .n) ce97 (zad (k1:=true) (u1:=u2_1) (v1:=u2_2) (q1:=sv)) (.c (j:=1) rfl .n) ?_)
    refine e_one 3 (zta rfl rfl rfl rfl (.c rfl .n) ce97 (zad (k1:=true) (u1:=u5_1) (v1:=u5_2) (q1:=tv)) (.c (j:=0) rfl .n) ?_)
    refine e_pv 4 rfl rfl (zEa (z:=(Big.sgq sv*Big.sgq tv)) rfl rfl (w64 om))<|e_pv 5 rfl rfl (zda rfl rfl)<|zW kr<|ze<|zJ rfl (fun hcr=> ?_) (fun hcr=> ?_)
    ·
     have hne:=Pg.opp hcr
     obtain ⟨hnd,hnf,⟨hnw1,hnw2⟩,hn1,hn2,⟨hnp1,hnp2⟩⟩:=Pg.nb hsi hsj hne hpi hpj
     refine zh<|zY (OW:=[]) (O:=[boxA u7_1 43 (cw [u5_1,u5_2]),boxA u6_1 43 (cw [u2_1,u2_2]),boxA b17 69 (cw [w13,w14,w15,w16]),boxA b10 69 (cw [w6,w7,w8,w9]),rowA 69 rR p5 c5 o2]) 9 mixed (.then (.block (.then (.then (.block (.then .ret)))))) kr<|e_u 0 rfl rfl (zb 1 ty43 rfl rfl (.t4 .nil))<|e_u 1 rfl rfl (zb 1 ty43 rfl rfl (.t4 .nil))<|e_u 2 rfl rfl (zb 0 ty43 rfl rfl (.t4 .nil))<|zNb (m':=[(61,.agg (cw [u5_1,u5_2]).toArray),(60,.agg (cw [u2_1,u2_2]).toArray),(59,.agg (cw [u2_1,u2_2]).toArray),(8,.slice p5 (o2.length) c5),(11,yc (some ⟨b17,0,none⟩)),(10,yc (some ⟨b10,0,none⟩)),(20,ya yb ((i:Nat):Int)),(19,ya yb ((n:Nat):Int)),(18,.slice p n cap),(7,.func (.func 94) #[] #[yc (some ⟨b1,0,none⟩),yc (some ⟨b2,0,none⟩)]),(0,.slice p n cap)]) (R':=[qF true u5_1 u5_2 tv,qF true u2_1 u2_2 sv,qF true w13 w14 ((ym l ((i+1)%n)).1),qF true w15 w16 ((ym l ((i+1)%n)).2),qF true w6 w7 ((ym l i).1),qF true w8 w9 ((ym l i).2),atF b2 0 [wb0.b,wb0.l,wb1.b,wb1.l,wb2.b,wb2.l,wb3.b,wb3.l],atF b1 0 [wa0.b,wa0.l,wa1.b,wa1.l,wa2.b,wa2.l,wa3.b,wa3.l],slF rR p cap l,qF true wa0 wa1 (qa.1),qF true wa2 wa3 (qa.2),qF true wb0 wb1 (qb.1),qF true wb2 wb3 (qb.2)]) (mR rfl) (List.Perm.refl _) (List.Perm.refl _) ((.of [0,1,2,3,4,5,6,7,8,9,10,11,12] rfl):SelR _ _ _)<|zca (X:=Wd×Wd×Nat) (k':=0) (L':=(lb 11 2047)) (fun (u4_1r2,u4_2r2,u8_1r2)=>([(14,yc (some ⟨u8_1r2,0,none⟩)),(8,.slice p5 (o2.length) c5),(11,yc (some ⟨b17,0,none⟩)),(10,yc (some ⟨b10,0,none⟩)),(20,ya yb ((i:Nat):Int)),(19,ya yb ((n:Nat):Int)),(18,.slice p n cap),(7,.func (.func 94) #[] #[yc (some ⟨b1,0,none⟩),yc (some ⟨b2,0,none⟩)]),(0,.slice p n cap)],[boxA u8_1r2 43 (cw [u4_1r2,u4_2r2])],[boxA u7_1 43 (cw [u5_1,u5_2]),boxA u6_1 43 (cw [u2_1,u2_2]),boxA b17 69 (cw [w13,w14,w15,w16]),boxA b10 69 (cw [w6,w7,w8,w9]),rowA 69 rR p5 c5 o2],[qF true u4_1r2 u4_2r2 (sv / (sv - tv)),qF true u5_1 u5_2 tv,qF true u2_1 u2_2 sv,qF true w13 w14 ((ym l ((i+1)%n)).1),qF true w15 w16 ((ym l ((i+1)%n)).2),qF true w6 w7 ((ym l i).1),qF true w8 w9 ((ym l i).2),atF b2 0 [wb0.b,wb0.l,wb1.b,wb1.l,wb2.b,wb2.l,wb3.b,wb3.l],atF b1 0 [wa0.b,wa0.l,wa1.b,wa1.l,wa2.b,wa2.l,wa3.b,wa3.l],slF rR p cap l,qF true wa0 wa1 (qa.1),qF true wa2 wa3 (qa.2),qF true wb0 wb1 (qb.1),qF true wb2 wb3 (qb.2)])) ?_ (fun hD0=> ?_)
     ·
      rintro ⟨u4_1r2,u4_2r2,u8_1r2⟩
      dsimp only [cw]
      refine zW kr<|ze<|zh<|za<|e_ru (zb 4 ty69 rfl rfl (.t8 .nil))<|e_ru (zb 3 ty69 rfl rfl (.t8 .nil))<|zG rfl rfl (.c rfl (.c rfl .n)) ce96 (zzd (wa0:=w6) (wa1:=w7) (wa2:=w8) (wa3:=w9) (qa:=(ym l i)) (wb0:=w13) (wb1:=w14) (wb2:=w15) (wb3:=w16) (qb:=(ym l ((i+1)%n))) (K:=K) (K2:=K) (hpa:=cbo) (hpb:=cbo) (hK:=cbo)) (.c (j:=5) rfl (.c (j:=6) rfl (.c (j:=3) rfl (.c (j:=4) rfl .n)))) ?_
      rintro ⟨wr025,wr126,wr227,wr328⟩ -
      dsimp only [aq,nq,cq]
      refine zP rfl rfl (zn zr69 rfl) (fun b29=> ?_)
      refine zm 0 rfl rfl rfl rfl rfl sz69 rfl (.t8 .nil) .z<|zi<|ze<|zwa (.c (i:=6) rfl (.c (i:=0) rfl (.c (i:=0) rfl (.c (i:=3) rfl .n))))<|zY (OW:=[rowA 69 rR p5 c5 o2]) (O:=[boxA b29 69 (cw [wr025,wr126,wr227,wr328]),boxA u8_1r2 43 (cw [u4_1r2,u4_2r2]),boxA b10 69 (cw [w6,w7,w8,w9])]) 17 mixed (.block (.then (.then (.block (.then .ret))))) kr<|e_dm 0 rfl rfl rfl<|e_pv 1 rfl rfl (zf yn rfl sz43 rfl rfl)<|e_uw 2 rfl rfl (zb 3 ty43 rfl rfl (.t4 .nil))<|e_uw 3 rfl rfl (zb 2 ty43 rfl rfl (.t4 .nil))<|e_pv 4 rfl rfl (zf yn rfl sz43 rfl rfl)<|e_uw 5 rfl rfl (zb 1 ty43 rfl rfl (.t4 .nil))<|e_pv 8 rfl rfl (zf yn rfl sz43 rfl rfl)<|e_uw 9 rfl rfl (zb 3 ty43 rfl rfl (.s4 (.t4 .nil)))<|e_uw 10 rfl rfl (zb 2 ty43 rfl rfl (.t4 .nil))<|e_pv 11 rfl rfl (zf yn rfl sz43 rfl rfl)<|e_uw 12 rfl rfl (zb 1 ty43 rfl rfl (.s4 (.t4 .nil)))<|e_one 6 (zq rfl rfl rfl rfl (.c rfl (.c rfl .n)) ce102 (zMc (k1:=true) (u1:=u4_1r2) (v1:=u4_2r2) (q1:=sv / (sv - tv)) (k2:=true) (u2:=wr025) (v2:=wr126) (q2:=(yP (ym l i) (ym l ((i+1)%n))).1) (hl:=cbo)) (.c (j:=2) rfl (.c (j:=0) rfl .n)) ?_)
      rintro ⟨w330,w431⟩ -
      dsimp only [aq,nq,cq]
      refine e_one 7 (zq rfl rfl rfl rfl (.c rfl (.c rfl .n)) ce101 (zyd (k1:=true) (u1:=w6) (v1:=w7) (q1:=(ym l i).1) (k2:=true) (u2:=w330) (v2:=w431) (q2:=(sv / (sv - tv))*((yP (ym l i) (ym l ((i+1)%n))).1)) (hl:=cbo)) (.c (j:=8) rfl (.c (j:=0) rfl .n)) ?_)
      rintro ⟨w332,w433⟩ -
      dsimp only [aq,nq,cq]
      refine e_one 13 (zq rfl rfl rfl rfl (.c rfl (.c rfl .n)) ce102 (zMc (k1:=true) (u1:=u4_1r2) (v1:=u4_2r2) (q1:=sv / (sv - tv)) (k2:=true) (u2:=wr227) (v2:=wr328) (q2:=(yP (ym l i) (ym l ((i+1)%n))).2) (hl:=cbo)) (.c (j:=4) rfl (.c (j:=3) rfl .n)) ?_)
      rintro ⟨w334,w435⟩ -
      dsimp only [aq,nq,cq]
      refine e_one 14 (zq rfl rfl rfl rfl (.c rfl (.c rfl .n)) ce101 (zyd (k1:=true) (u1:=w8) (v1:=w9) (q1:=(ym l i).2) (k2:=true) (u2:=w334) (v2:=w435) (q2:=(sv / (sv - tv))*((yP (ym l i) (ym l ((i+1)%n))).2)) (hl:=cbo)) (.c (j:=11) rfl (.c (j:=0) rfl .n)) ?_)
      rintro ⟨w336,w437⟩ -
      dsimp only [aq,nq,cq]
      refine e_pv 15 rfl rfl (zK zr69 rfl yn (.c sz43 (.c sz43 .n)) (.c rfl (.c rfl .n)) (.c rfl rfl rfl (.t4 .nil) (.c rfl rfl rfl (.s4 (.t4 .nil)) .n)))<|e_one 16 (zif rfl rfl rfl rfl (zPa (r:=rR) (k:=1) yv inf69 rfl dd dd dd (.c (x:=((((ym l i).1)+((sv / (sv - tv))*((yP (ym l i) (ym l ((i+1)%n))).1))),(((ym l i).2)+((sv / (sv - tv))*((yP (ym l i) (ym l ((i+1)%n))).2))))) (cs:=[w332.b,w332.l,w433.b,w433.l,w336.b,w336.l,w437.b,w437.l]) (w332,w433,w336,w437) rfl rfl rfl (fun g hr=>⟨Holds.get 2 rfl hr,Holds.get 0 rfl hr⟩) .n)) (fun b38 _=> ?_))
      refine zWb 0 rfl .z<|e_one 17 (zae (A':=fun v:Option Addr×Nat=>rowA 69 rR v.1 v.2 (o2++([((((ym l i).1)+((sv / (sv - tv))*((yP (ym l i) (ym l ((i+1)%n))).1))),(((ym l i).2)+((sv / (sv - tv))*((yP (ym l i) (ym l ((i+1)%n))).2))))]))) kr rfl rfl rfl (zua 0 rfl yv inf69 dd rfl rfl cbs rfl cbs om om) ?_)
      rintro ⟨p39,c40⟩ -
      dsimp only [aq,nq,cq]
      refine e_pv 18 rfl rfl (zd rfl)<|zW kr<|zT<|ze ?_
      have hrw:(o2++([((((ym l i).1)+((sv / (sv - tv))*((yP (ym l i) (ym l ((i+1)%n))).1))),(((ym l i).2)+((sv / (sv - tv))*((yP (ym l i) (ym l ((i+1)%n))).2))))]))=yt n qa qb l (i+1):=by subst ho2;subst htv;subst hsv;show _=yt n qa qb l i++Pg.clA qa qb _ _;unfold Pg.clA;first|(rw [if_pos hcr,List.append_assoc];rfl)|(rw [if_pos hcr,←List.append_assoc];rfl)|(rw [if_neg hcr,List.append_nil];done)|(rw [if_neg hcr,List.append_nil];rfl)
      rw [hrw]
      refine za<|e_p (zO (z:=(((i+1):Nat):Int)) rfl rfl (w64 om))<|e_mv rfl<|zi<|zla ((i+1),p39,c40) (show (i+1)≤n from by show i+1≤n;omega) (by show n - (i+1)<n - i;omega) ((.e rfl (by first|(refine congrArg (fun z=>Value.slice _ z _) ?_;dsimp only;rw [← hrw];simp;done)|(refine congrArg (fun z=>Value.slice _ z _) ?_;dsimp only;rw [← hrw];done)|(refine congrArg (fun z=>Value.slice _ z _) ?_;rw [← hrw];done)|(rw [← hrw];done)) (.of rfl)):SubM _ _) (ho:=(o0 rfl)) ((.of [14,15,16,17,18,19,20] rfl):SelR _ _ _)
     refine zca (X:=Wd×Wd×Nat) (k':=2) (L':=(lb 11 511)) (fun (u4_1r2,u4_2r2,u8_1r2)=>([(14,yc (some ⟨u8_1r2,0,none⟩)),(65,ya yb 0),(64,.agg (cw [u4_1r2,u4_2r2]).toArray),(8,.slice p5 (o2.length) c5),(11,yc (some ⟨b17,0,none⟩)),(10,yc (some ⟨b10,0,none⟩)),(20,ya yb ((i:Nat):Int)),(19,ya yb ((n:Nat):Int)),(18,.slice p n cap),(7,.func (.func 94) #[] #[yc (some ⟨b1,0,none⟩),yc (some ⟨b2,0,none⟩)]),(0,.slice p n cap)],[boxA u8_1r2 43 (cw [wz,wz])],[boxA u7_1 43 (cw [u5_1,u5_2]),boxA u6_1 43 (cw [u2_1,u2_2]),boxA b17 69 (cw [w13,w14,w15,w16]),boxA b10 69 (cw [w6,w7,w8,w9]),rowA 69 rR p5 c5 o2],[qF true u4_1r2 u4_2r2 (sv / (sv - tv)),qF true u5_1 u5_2 tv,qF true u2_1 u2_2 sv,qF true w13 w14 ((ym l ((i+1)%n)).1),qF true w15 w16 ((ym l ((i+1)%n)).2),qF true w6 w7 ((ym l i).1),qF true w8 w9 ((ym l i).2),atF b2 0 [wb0.b,wb0.l,wb1.b,wb1.l,wb2.b,wb2.l,wb3.b,wb3.l],atF b1 0 [wa0.b,wa0.l,wa1.b,wa1.l,wa2.b,wa2.l,wa3.b,wa3.l],slF rR p cap l,qF true wa0 wa1 (qa.1),qF true wa2 wa3 (qa.2),qF true wb0 wb1 (qb.1),qF true wb2 wb3 (qb.2)])) ?_ (fun hD1=> ?_)
     ·
      rintro ⟨u4_1r2,u4_2r2,u8_1r2⟩
      dsimp only [cw]
      refine zya 9 kr ?_
      ·
       refine zr kr rfl rfl rfl rfl rfl sz43 rfl (.t4 .nil)<|e_pv 10 rfl rfl (zd rfl) ?_
       exact zH (hD0 (u4_1r2,u4_2r2,u8_1r2)) kr (mR rfl) .rfl .rfl ((.of [0,1,2,3,4,5,6,7,8,9,10,11,12,13] rfl):SelR _ _ _)
     refine zca (X:=Wd×Wd) (k':=3) (L':=(lb 11 255)) (fun (u4_1r2,u4_2r2)=>([(65,ya yb 0),(64,.agg (cw [u4_1r2,u4_2r2]).toArray),(8,.slice p5 (o2.length) c5),(11,yc (some ⟨b17,0,none⟩)),(10,yc (some ⟨b10,0,none⟩)),(20,ya yb ((i:Nat):Int)),(19,ya yb ((n:Nat):Int)),(18,.slice p n cap),(7,.func (.func 94) #[] #[yc (some ⟨b1,0,none⟩),yc (some ⟨b2,0,none⟩)]),(0,.slice p n cap)],[],[boxA u7_1 43 (cw [u5_1,u5_2]),boxA u6_1 43 (cw [u2_1,u2_2]),boxA b17 69 (cw [w13,w14,w15,w16]),boxA b10 69 (cw [w6,w7,w8,w9]),rowA 69 rR p5 c5 o2],[qF true u4_1r2 u4_2r2 (sv / (sv - tv)),qF true u5_1 u5_2 tv,qF true u2_1 u2_2 sv,qF true w13 w14 ((ym l ((i+1)%n)).1),qF true w15 w16 ((ym l ((i+1)%n)).2),qF true w6 w7 ((ym l i).1),qF true w8 w9 ((ym l i).2),atF b2 0 [wb0.b,wb0.l,wb1.b,wb1.l,wb2.b,wb2.l,wb3.b,wb3.l],atF b1 0 [wa0.b,wa0.l,wa1.b,wa1.l,wa2.b,wa2.l,wa3.b,wa3.l],slF rR p cap l,qF true wa0 wa1 (qa.1),qF true wa2 wa3 (qa.2),qF true wb0 wb1 (qb.1),qF true wb2 wb3 (qb.2)])) ?_ (fun hD2=> ?_)
     ·
      rintro ⟨u4_1r2,u4_2r2⟩
      dsimp only [cw]
      refine zya 8 kr ?_
      ·
       refine zma rfl rfl rfl rfl (zn zr43 rfl) (fun u8_1r2 _=> ?_)
       exact zH (hD1 (u4_1r2,u4_2r2,u8_1r2)) kr (mR rfl) .rfl .rfl ((.of [0,1,2,3,4,5,6,7,8,9,10,11,12,13] rfl):SelR _ _ _)
     refine zca (X:=Wd×Wd×Nat) (k':=6) (L':=(lb 11 271)) (fun (u3_1r2,u3_2r2,u8_1r2)=>([(14,yc (some ⟨u8_1r2,0,none⟩)),(62,.agg (cw [u3_1r2,u3_2r2]).toArray),(59,.agg (cw [u2_1,u2_2]).toArray),(8,.slice p5 (o2.length) c5),(11,yc (some ⟨b17,0,none⟩)),(10,yc (some ⟨b10,0,none⟩)),(20,ya yb ((i:Nat):Int)),(19,ya yb ((n:Nat):Int)),(18,.slice p n cap),(7,.func (.func 94) #[] #[yc (some ⟨b1,0,none⟩),yc (some ⟨b2,0,none⟩)]),(0,.slice p n cap)],[boxA u8_1r2 43 (cw [wz,wz])],[boxA u7_1 43 (cw [u5_1,u5_2]),boxA u6_1 43 (cw [u2_1,u2_2]),boxA b17 69 (cw [w13,w14,w15,w16]),boxA b10 69 (cw [w6,w7,w8,w9]),rowA 69 rR p5 c5 o2],[qF true u3_1r2 u3_2r2 (sv - tv),qF true u5_1 u5_2 tv,qF true u2_1 u2_2 sv,qF true w13 w14 ((ym l ((i+1)%n)).1),qF true w15 w16 ((ym l ((i+1)%n)).2),qF true w6 w7 ((ym l i).1),qF true w8 w9 ((ym l i).2),atF b2 0 [wb0.b,wb0.l,wb1.b,wb1.l,wb2.b,wb2.l,wb3.b,wb3.l],atF b1 0 [wa0.b,wa0.l,wa1.b,wa1.l,wa2.b,wa2.l,wa3.b,wa3.l],slF rR p cap l,qF true wa0 wa1 (qa.1),qF true wa2 wa3 (qa.2),qF true wb0 wb1 (qb.1),qF true wb2 wb3 (qb.2)])) ?_ (fun hD3=> ?_)
     ·
      rintro ⟨u3_1r2,u3_2r2,u8_1r2⟩
      dsimp only [cw]
      refine zya 4 kr ?_
      ·
       refine zq rfl rfl rfl rfl (.c rfl (.c rfl .n)) ce99 (zpc (k1:=true) (u1:=u2_1) (v1:=u2_2) (q1:=sv) (k2:=true) (u2:=u3_1r2) (v2:=u3_2r2) (q2:=sv - tv) (hl:=cbo) (hy:=cbo)) (.c (j:=2) rfl (.c (j:=0) rfl .n)) ?_
       rintro ⟨u4_1r2,u4_2r2⟩ -
       dsimp only [aq,nq,cq]
       refine e_dm 5 rfl rfl rfl<|e_pv 6 rfl rfl (zA rfl rfl)<|e_pv 7 rfl rfl (zA rfl rfl) ?_
       exact zH (hD1 (u4_1r2,u4_2r2,u8_1r2)) kr (mR rfl) .rfl .rfl ((.of [0,2,3,4,5,6,7,8,9,10,11,12,13,14] rfl):SelR _ _ _)
     refine zca (X:=Wd×Wd) (k':=7) (L':=(lb 11 15)) (fun (u3_1r2,u3_2r2)=>([(62,.agg (cw [u3_1r2,u3_2r2]).toArray),(59,.agg (cw [u2_1,u2_2]).toArray),(8,.slice p5 (o2.length) c5),(11,yc (some ⟨b17,0,none⟩)),(10,yc (some ⟨b10,0,none⟩)),(20,ya yb ((i:Nat):Int)),(19,ya yb ((n:Nat):Int)),(18,.slice p n cap),(7,.func (.func 94) #[] #[yc (some ⟨b1,0,none⟩),yc (some ⟨b2,0,none⟩)]),(0,.slice p n cap)],[],[boxA u7_1 43 (cw [u5_1,u5_2]),boxA u6_1 43 (cw [u2_1,u2_2]),boxA b17 69 (cw [w13,w14,w15,w16]),boxA b10 69 (cw [w6,w7,w8,w9]),rowA 69 rR p5 c5 o2],[qF true u3_1r2 u3_2r2 (sv - tv),qF true u5_1 u5_2 tv,qF true u2_1 u2_2 sv,qF true w13 w14 ((ym l ((i+1)%n)).1),qF true w15 w16 ((ym l ((i+1)%n)).2),qF true w6 w7 ((ym l i).1),qF true w8 w9 ((ym l i).2),atF b2 0 [wb0.b,wb0.l,wb1.b,wb1.l,wb2.b,wb2.l,wb3.b,wb3.l],atF b1 0 [wa0.b,wa0.l,wa1.b,wa1.l,wa2.b,wa2.l,wa3.b,wa3.l],slF rR p cap l,qF true wa0 wa1 (qa.1),qF true wa2 wa3 (qa.2),qF true wb0 wb1 (qb.1),qF true wb2 wb3 (qb.2)])) ?_ (fun hD4=> ?_)
     ·
      rintro ⟨u3_1r2,u3_2r2⟩
      dsimp only [cw]
      refine zdb 4 8 kr ?_ ?_
      ·
       refine zq rfl rfl rfl rfl (.c rfl (.c rfl .n)) ce99 (zpc (k1:=true) (u1:=u2_1) (v1:=u2_2) (q1:=sv) (k2:=true) (u2:=u3_1r2) (v2:=u3_2r2) (q2:=sv - tv) (hl:=cbo) (hy:=cbo)) (.c (j:=2) rfl (.c (j:=0) rfl .n)) ?_
       rintro ⟨u4_1r2,u4_2r2⟩ -
       dsimp only [aq,nq,cq]
       refine e_dm 5 rfl rfl rfl<|e_pv 6 rfl rfl (zA rfl rfl)<|e_pv 7 rfl rfl (zA rfl rfl) ?_
       exact zH (hD2 (u4_1r2,u4_2r2)) kr (mR rfl) .rfl .rfl ((.of [0,2,3,4,5,6,7,8,9,10,11,12,13,14] rfl):SelR _ _ _)
      ·
       refine zma rfl rfl rfl rfl (zn zr43 rfl) (fun u8_1r2 _=> ?_)
       exact zH (hD3 (u3_1r2,u3_2r2,u8_1r2)) kr (mR rfl) .rfl .rfl ((.of [0,1,2,3,4,5,6,7,8,9,10,11,12,13] rfl):SelR _ _ _)
     refine zca (X:=Nat) (k':=7) (L':=(lb 11 263)) (fun u8_1r2=>([(14,yc (some ⟨u8_1r2,0,none⟩)),(61,.agg (cw [u5_1,u5_2]).toArray),(60,.agg (cw [u2_1,u2_2]).toArray),(59,.agg (cw [u2_1,u2_2]).toArray),(8,.slice p5 (o2.length) c5),(11,yc (some ⟨b17,0,none⟩)),(10,yc (some ⟨b10,0,none⟩)),(20,ya yb ((i:Nat):Int)),(19,ya yb ((n:Nat):Int)),(18,.slice p n cap),(7,.func (.func 94) #[] #[yc (some ⟨b1,0,none⟩),yc (some ⟨b2,0,none⟩)]),(0,.slice p n cap)],[boxA u8_1r2 43 (cw [wz,wz])],[boxA u7_1 43 (cw [u5_1,u5_2]),boxA u6_1 43 (cw [u2_1,u2_2]),boxA b17 69 (cw [w13,w14,w15,w16]),boxA b10 69 (cw [w6,w7,w8,w9]),rowA 69 rR p5 c5 o2],[qF true u5_1 u5_2 tv,qF true u2_1 u2_2 sv,qF true w13 w14 ((ym l ((i+1)%n)).1),qF true w15 w16 ((ym l ((i+1)%n)).2),qF true w6 w7 ((ym l i).1),qF true w8 w9 ((ym l i).2),atF b2 0 [wb0.b,wb0.l,wb1.b,wb1.l,wb2.b,wb2.l,wb3.b,wb3.l],atF b1 0 [wa0.b,wa0.l,wa1.b,wa1.l,wa2.b,wa2.l,wa3.b,wa3.l],slF rR p cap l,qF true wa0 wa1 (qa.1),qF true wa2 wa3 (qa.2),qF true wb0 wb1 (qb.1),qF true wb2 wb3 (qb.2)])) ?_ (fun hD5=> ?_)
     ·
      rintro u8_1r2
      dsimp only [cw]
      refine zya 3 kr ?_
      ·
       refine zq rfl rfl rfl rfl (.c rfl (.c rfl .n)) ce100 (zoc (k1:=true) (u1:=u2_1) (v1:=u2_2) (q1:=sv) (k2:=true) (u2:=u5_1) (v2:=u5_2) (q2:=tv) (hl:=cbo)) (.c (j:=1) rfl (.c (j:=0) rfl .n)) ?_
       rintro ⟨u3_1r2,u3_2r2⟩ -
       dsimp only [aq,nq,cq]
       exact zH (hD3 (u3_1r2,u3_2r2,u8_1r2)) kr (mR rfl) .rfl .rfl ((.of [0,1,2,3,4,5,6,7,8,9,10,11,12,13] rfl):SelR _ _ _)
     refine zdb 3 8 kr ?_ ?_
     ·
      refine zq rfl rfl rfl rfl (.c rfl (.c rfl .n)) ce100 (zoc (k1:=true) (u1:=u2_1) (v1:=u2_2) (q1:=sv) (k2:=true) (u2:=u5_1) (v2:=u5_2) (q2:=tv) (hl:=cbo)) (.c (j:=1) rfl (.c (j:=0) rfl .n)) ?_
      rintro ⟨u3_1r2,u3_2r2⟩ -
      dsimp only [aq,nq,cq]
      exact zH (hD4 (u3_1r2,u3_2r2)) kr (mR rfl) .rfl .rfl ((.of [0,1,2,3,4,5,6,7,8,9,10,11,12,13] rfl):SelR _ _ _)
     ·
      refine zma rfl rfl rfl rfl (zn zr43 rfl) (fun u8_1r2 _=> ?_)
      exact zH (hD5 u8_1r2) kr (mR rfl) .rfl .rfl ((.of [0,1,2,3,4,5,6,7,8,9,10,11,12] rfl):SelR _ _ _)
    ·
     refine zC<|zT<|ze ?_
     have hrw:o2=yt n qa qb l (i+1):=by subst ho2;subst htv;subst hsv;show _=yt n qa qb l i++Pg.clA qa qb _ _;unfold Pg.clA;first|(rw [if_pos hcr,List.append_assoc];rfl)|(rw [if_pos hcr,←List.append_assoc];rfl)|(rw [if_neg hcr,List.append_nil];done)|(rw [if_neg hcr,List.append_nil];rfl)
     rw [hrw]
     refine za<|e_p (zO (z:=(((i+1):Nat):Int)) rfl rfl (w64 om))<|e_mv rfl<|zi<|zla ((i+1),p5,c5) (show (i+1)≤n from by show i+1≤n;omega) (by show n - (i+1)<n - i;omega) ((.e rfl (by first|(refine congrArg (fun z=>Value.slice _ z _) ?_;dsimp only;rw [← hrw];simp;done)|(refine congrArg (fun z=>Value.slice _ z _) ?_;dsimp only;rw [← hrw];done)|(refine congrArg (fun z=>Value.slice _ z _) ?_;rw [← hrw];done)|(rw [← hrw];done)) (.of rfl)):SubM _ _) (ho:=((.c (i:=4) rfl .n):PickO _ _ _)) ((.of [6,7,8,9,10,11,12] rfl):SelR _ _ _)
  refine zca (X:=Wd×Wd×Wd×Wd×Nat×Nat) (k':=1) (L':=(lb 10 511)) (fun (u2_1,u2_2,u5_1,u5_2,u6_1,u7_1)=>([(13,yc (some ⟨u7_1,0,none⟩)),(12,yc (some ⟨u6_1,0,none⟩)),(38,.agg (cw [u5_1,u5_2]).toArray),(11,yc (some ⟨b17,0,none⟩)),(10,yc (some ⟨b10,0,none⟩)),(8,.slice p7 ((yt n qa qb l i).length) c7),(20,ya yb ((i:Nat):Int)),(19,ya yb ((n:Nat):Int)),(18,.slice p n cap),(7,.func (.func 94) #[] #[yc (some ⟨b1,0,none⟩),yc (some ⟨b2,0,none⟩)]),(0,.slice p n cap)],[boxA u6_1 43 (cw [u2_1,u2_2]),boxA u7_1 43 (cw [wz,wz])],[boxA b17 69 (cw [w13,w14,w15,w16]),boxA b10 69 (cw [w6,w7,w8,w9]),rowA 69 rR p7 c7 (yt n qa qb l i)],[qF true u5_1 u5_2 (yE qa qb (ym l ((i+1)%n))),qF true u2_1 u2_2 (yE qa qb (ym l i)),qF true w13 w14 ((ym l ((i+1)%n)).1),qF true w15 w16 ((ym l ((i+1)%n)).2),qF true w6 w7 ((ym l i).1),qF true w8 w9 ((ym l i).2),atF b2 0 [wb0.b,wb0.l,wb1.b,wb1.l,wb2.b,wb2.l,wb3.b,wb3.l],atF b1 0 [wa0.b,wa0.l,wa1.b,wa1.l,wa2.b,wa2.l,wa3.b,wa3.l],slF rR p cap l,qF true wa0 wa1 (qa.1),qF true wa2 wa3 (qa.2),qF true wb0 wb1 (qb.1),qF true wb2 wb3 (qb.2)])) ?_ (fun hD1=> ?_)
  ·
   rintro ⟨u2_1,u2_2,u5_1,u5_2,u6_1,u7_1⟩
   dsimp only [cw]
   refine zya 9 kr ?_
   ·
    refine zPb (zfa (i:=1) rfl)<|zr kr rfl rfl rfl rfl rfl sz43 rfl (.t4 .nil) ?_
    exact zH (hD0 (u2_1,u2_2,u5_1,u5_2,u6_1,u7_1)) kr (mR rfl) .rfl .rfl ((.of [0,1,2,3,4,5,6,7,8,9,10,11,12] rfl):SelR _ _ _)
  refine zca (X:=Wd×Wd×Wd×Wd×Nat×Nat) (k':=2) (L':=(lb 10 255)) (fun (u2_1,u2_2,u5_1,u5_2,u6_1,u7_1)=>([(13,yc (some ⟨u7_1,0,none⟩)),(12,yc (some ⟨u6_1,0,none⟩)),(38,.agg (cw [u5_1,u5_2]).toArray),(35,.agg (cw [u2_1,u2_2]).toArray),(11,yc (some ⟨b17,0,none⟩)),(10,yc (some ⟨b10,0,none⟩)),(8,.slice p7 ((yt n qa qb l i).length) c7),(20,ya yb ((i:Nat):Int)),(19,ya yb ((n:Nat):Int)),(18,.slice p n cap),(7,.func (.func 94) #[] #[yc (some ⟨b1,0,none⟩),yc (some ⟨b2,0,none⟩)]),(0,.slice p n cap)],[boxA u7_1 43 (cw [wz,wz]),boxA u6_1 43 (cw [wz,wz])],[boxA b17 69 (cw [w13,w14,w15,w16]),boxA b10 69 (cw [w6,w7,w8,w9]),rowA 69 rR p7 c7 (yt n qa qb l i)],[qF true u5_1 u5_2 (yE qa qb (ym l ((i+1)%n))),qF true u2_1 u2_2 (yE qa qb (ym l i)),qF true w13 w14 ((ym l ((i+1)%n)).1),qF true w15 w16 ((ym l ((i+1)%n)).2),qF true w6 w7 ((ym l i).1),qF true w8 w9 ((ym l i).2),atF b2 0 [wb0.b,wb0.l,wb1.b,wb1.l,wb2.b,wb2.l,wb3.b,wb3.l],atF b1 0 [wa0.b,wa0.l,wa1.b,wa1.l,wa2.b,wa2.l,wa3.b,wa3.l],slF rR p cap l,qF true wa0 wa1 (qa.1),qF true wa2 wa3 (qa.2),qF true wb0 wb1 (qb.1),qF true wb2 wb3 (qb.2)])) ?_ (fun hD2=> ?_)
  ·
   rintro ⟨u2_1,u2_2,u5_1,u5_2,u6_1,u7_1⟩
   dsimp only [cw]
   refine zya 8 kr ?_
   ·
    refine zPb (zfa (i:=1) rfl)<|zr kr rfl rfl rfl rfl rfl sz43 rfl (.t4 .nil) ?_
    exact zH (hD1 (u2_1,u2_2,u5_1,u5_2,u6_1,u7_1)) kr (mR rfl) .rfl .rfl ((.of [0,1,2,3,4,5,6,7,8,9,10,11,12] rfl):SelR _ _ _)
  refine zca (X:=Wd×Wd×Wd×Wd×Nat) (k':=3) (L':=(lb 10 127)) (fun (u2_1,u2_2,u5_1,u5_2,u6_1)=>([(12,yc (some ⟨u6_1,0,none⟩)),(38,.agg (cw [u5_1,u5_2]).toArray),(35,.agg (cw [u2_1,u2_2]).toArray),(11,yc (some ⟨b17,0,none⟩)),(10,yc (some ⟨b10,0,none⟩)),(8,.slice p7 ((yt n qa qb l i).length) c7),(20,ya yb ((i:Nat):Int)),(19,ya yb ((n:Nat):Int)),(18,.slice p n cap),(7,.func (.func 94) #[] #[yc (some ⟨b1,0,none⟩),yc (some ⟨b2,0,none⟩)]),(0,.slice p n cap)],[boxA u6_1 43 (cw [wz,wz])],[boxA b17 69 (cw [w13,w14,w15,w16]),boxA b10 69 (cw [w6,w7,w8,w9]),rowA 69 rR p7 c7 (yt n qa qb l i)],[qF true u5_1 u5_2 (yE qa qb (ym l ((i+1)%n))),qF true u2_1 u2_2 (yE qa qb (ym l i)),qF true w13 w14 ((ym l ((i+1)%n)).1),qF true w15 w16 ((ym l ((i+1)%n)).2),qF true w6 w7 ((ym l i).1),qF true w8 w9 ((ym l i).2),atF b2 0 [wb0.b,wb0.l,wb1.b,wb1.l,wb2.b,wb2.l,wb3.b,wb3.l],atF b1 0 [wa0.b,wa0.l,wa1.b,wa1.l,wa2.b,wa2.l,wa3.b,wa3.l],slF rR p cap l,qF true wa0 wa1 (qa.1),qF true wa2 wa3 (qa.2),qF true wb0 wb1 (qb.1),qF true wb2 wb3 (qb.2)])) ?_ (fun hD3=> ?_)
  ·
   rintro ⟨u2_1,u2_2,u5_1,u5_2,u6_1⟩
   dsimp only [cw]
   refine zya 7 kr ?_
   ·
    refine zma rfl rfl rfl rfl (zn zr43 rfl) (fun u7_1 _=> ?_)
    exact zH (hD2 (u2_1,u2_2,u5_1,u5_2,u6_1,u7_1)) kr (mR rfl) .rfl .rfl ((.of [0,1,2,3,4,5,6,7,8,9,10,11,12] rfl):SelR _ _ _)
  refine zca (X:=Wd×Wd×Wd×Wd×Nat) (k':=3) (L':=(lb 10 191)) (fun (u2_1,u2_2,u5_1,u5_2,u7_1)=>([(13,yc (some ⟨u7_1,0,none⟩)),(38,.agg (cw [u5_1,u5_2]).toArray),(35,.agg (cw [u2_1,u2_2]).toArray),(11,yc (some ⟨b17,0,none⟩)),(10,yc (some ⟨b10,0,none⟩)),(8,.slice p7 ((yt n qa qb l i).length) c7),(20,ya yb ((i:Nat):Int)),(19,ya yb ((n:Nat):Int)),(18,.slice p n cap),(7,.func (.func 94) #[] #[yc (some ⟨b1,0,none⟩),yc (some ⟨b2,0,none⟩)]),(0,.slice p n cap)],[boxA u7_1 43 (cw [wz,wz])],[boxA b17 69 (cw [w13,w14,w15,w16]),boxA b10 69 (cw [w6,w7,w8,w9]),rowA 69 rR p7 c7 (yt n qa qb l i)],[qF true u5_1 u5_2 (yE qa qb (ym l ((i+1)%n))),qF true u2_1 u2_2 (yE qa qb (ym l i)),qF true w13 w14 ((ym l ((i+1)%n)).1),qF true w15 w16 ((ym l ((i+1)%n)).2),qF true w6 w7 ((ym l i).1),qF true w8 w9 ((ym l i).2),atF b2 0 [wb0.b,wb0.l,wb1.b,wb1.l,wb2.b,wb2.l,wb3.b,wb3.l],atF b1 0 [wa0.b,wa0.l,wa1.b,wa1.l,wa2.b,wa2.l,wa3.b,wa3.l],slF rR p cap l,qF true wa0 wa1 (qa.1),qF true wa2 wa3 (qa.2),qF true wb0 wb1 (qb.1),qF true wb2 wb3 (qb.2)])) ?_ (fun hD4=> ?_)
  ·
   rintro ⟨u2_1,u2_2,u5_1,u5_2,u7_1⟩
   dsimp only [cw]
   refine zya 6 kr ?_
   ·
    refine zma rfl rfl rfl rfl (zn zr43 rfl) (fun u6_1 _=> ?_)
    exact zH (hD2 (u2_1,u2_2,u5_1,u5_2,u6_1,u7_1)) kr (mR rfl) (zJa 1 rfl (zJa 0 rfl .nil)) .rfl ((.of [0,1,2,3,4,5,6,7,8,9,10,11,12] rfl):SelR _ _ _)
  refine zca (X:=Wd×Wd×Nat×Nat) (k':=3) (L':=(lb 10 223)) (fun (u2_1,u2_2,u6_1,u7_1)=>([(13,yc (some ⟨u7_1,0,none⟩)),(12,yc (some ⟨u6_1,0,none⟩)),(35,.agg (cw [u2_1,u2_2]).toArray),(37,.agg (cw [w13,w14,w15,w16]).toArray),(36,.func (.func 94) #[] #[yc (some ⟨b1,0,none⟩),yc (some ⟨b2,0,none⟩)]),(11,yc (some ⟨b17,0,none⟩)),(10,yc (some ⟨b10,0,none⟩)),(8,.slice p7 ((yt n qa qb l i).length) c7),(20,ya yb ((i:Nat):Int)),(19,ya yb ((n:Nat):Int)),(18,.slice p n cap),(7,.func (.func 94) #[] #[yc (some ⟨b1,0,none⟩),yc (some ⟨b2,0,none⟩)]),(0,.slice p n cap)],[boxA u7_1 43 (cw [wz,wz]),boxA u6_1 43 (cw [wz,wz])],[boxA b17 69 (cw [w13,w14,w15,w16]),boxA b10 69 (cw [w6,w7,w8,w9]),rowA 69 rR p7 c7 (yt n qa qb l i)],[qF true u2_1 u2_2 (yE qa qb (ym l i)),qF true w13 w14 ((ym l ((i+1)%n)).1),qF true w15 w16 ((ym l ((i+1)%n)).2),qF true w6 w7 ((ym l i).1),qF true w8 w9 ((ym l i).2),atF b2 0 [wb0.b,wb0.l,wb1.b,wb1.l,wb2.b,wb2.l,wb3.b,wb3.l],atF b1 0 [wa0.b,wa0.l,wa1.b,wa1.l,wa2.b,wa2.l,wa3.b,wa3.l],slF rR p cap l,qF true wa0 wa1 (qa.1),qF true wa2 wa3 (qa.2),qF true wb0 wb1 (qb.1),qF true wb2 wb3 (qb.2)])) ?_ (fun hD5=> ?_)
  ·
   rintro ⟨u2_1,u2_2,u6_1,u7_1⟩
   dsimp only [cw]
   refine zya 5 kr ?_
   ·
    refine zhc (first:=[]) (cap:=[yc (some ⟨b1,0,none⟩),yc (some ⟨b2,0,none⟩)]) rfl rfl rfl rfl rfl (.c rfl .n) ce94 (zob (ba:=b1) (bb:=b2) (wa0:=wa0) (wa1:=wa1) (wa2:=wa2) (wa3:=wa3) (qa:=qa) (wb0:=wb0) (wb1:=wb1) (wb2:=wb2) (wb3:=wb3) (qb:=qb) (wd0:=w13) (wd1:=w14) (wd2:=w15) (wd3:=w16) (qd:=(ym l ((i+1)%n))) (K:=K) (hpa:=ass) (hpb:=ass) (hpd:=cbo) (hK:=cbo)) (.c (j:=6) rfl (.c (j:=5) rfl (.c (j:=8) rfl (.c (j:=9) rfl (.c (j:=10) rfl (.c (j:=11) rfl (.c (j:=1) rfl (.c (j:=2) rfl .n)))))))) ?_
    rintro ⟨u5_1,u5_2⟩ -
    dsimp only [aq,nq,cq]
    exact zH (hD2 (u2_1,u2_2,u5_1,u5_2,u6_1,u7_1)) kr (mR rfl) .rfl .rfl ((.of [0,1,2,3,4,5,6,7,8,9,10,11,12] rfl):SelR _ _ _)
  refine zca (X:=Wd×Wd×Wd×Wd) (k':=4) (L':=(lb 10 63)) (fun (u2_1,u2_2,u5_1,u5_2)=>([(38,.agg (cw [u5_1,u5_2]).toArray),(35,.agg (cw [u2_1,u2_2]).toArray),(11,yc (some ⟨b17,0,none⟩)),(10,yc (some ⟨b10,0,none⟩)),(8,.slice p7 ((yt n qa qb l i).length) c7),(20,ya yb ((i:Nat):Int)),(19,ya yb ((n:Nat):Int)),(18,.slice p n cap),(7,.func (.func 94) #[] #[yc (some ⟨b1,0,none⟩),yc (some ⟨b2,0,none⟩)]),(0,.slice p n cap)],[],[boxA b17 69 (cw [w13,w14,w15,w16]),boxA b10 69 (cw [w6,w7,w8,w9]),rowA 69 rR p7 c7 (yt n qa qb l i)],[qF true u5_1 u5_2 (yE qa qb (ym l ((i+1)%n))),qF true u2_1 u2_2 (yE qa qb (ym l i)),qF true w13 w14 ((ym l ((i+1)%n)).1),qF true w15 w16 ((ym l ((i+1)%n)).2),qF true w6 w7 ((ym l i).1),qF true w8 w9 ((ym l i).2),atF b2 0 [wb0.b,wb0.l,wb1.b,wb1.l,wb2.b,wb2.l,wb3.b,wb3.l],atF b1 0 [wa0.b,wa0.l,wa1.b,wa1.l,wa2.b,wa2.l,wa3.b,wa3.l],slF rR p cap l,qF true wa0 wa1 (qa.1),qF true wa2 wa3 (qa.2),qF true wb0 wb1 (qb.1),qF true wb2 wb3 (qb.2)])) ?_ (fun hD6=> ?_)
  ·
   rintro ⟨u2_1,u2_2,u5_1,u5_2⟩
   dsimp only [cw]
   refine zdb 6 7 kr ?_ ?_
   ·
    refine zma rfl rfl rfl rfl (zn zr43 rfl) (fun u6_1 _=> ?_)
    exact zH (hD3 (u2_1,u2_2,u5_1,u5_2,u6_1)) kr (mR rfl) .rfl .rfl ((.of [0,1,2,3,4,5,6,7,8,9,10,11,12] rfl):SelR _ _ _)
   ·
    refine zma rfl rfl rfl rfl (zn zr43 rfl) (fun u7_1 _=> ?_)
    exact zH (hD4 (u2_1,u2_2,u5_1,u5_2,u7_1)) kr (mR rfl) .rfl .rfl ((.of [0,1,2,3,4,5,6,7,8,9,10,11,12] rfl):SelR _ _ _)
  refine zca (X:=Wd×Wd×Nat) (k':=4) (L':=(lb 10 95)) (fun (u2_1,u2_2,u6_1)=>([(12,yc (some ⟨u6_1,0,none⟩)),(35,.agg (cw [u2_1,u2_2]).toArray),(37,.agg (cw [w13,w14,w15,w16]).toArray),(36,.func (.func 94) #[] #[yc (some ⟨b1,0,none⟩),yc (some ⟨b2,0,none⟩)]),(11,yc (some ⟨b17,0,none⟩)),(10,yc (some ⟨b10,0,none⟩)),(8,.slice p7 ((yt n qa qb l i).length) c7),(20,ya yb ((i:Nat):Int)),(19,ya yb ((n:Nat):Int)),(18,.slice p n cap),(7,.func (.func 94) #[] #[yc (some ⟨b1,0,none⟩),yc (some ⟨b2,0,none⟩)]),(0,.slice p n cap)],[boxA u6_1 43 (cw [wz,wz])],[boxA b17 69 (cw [w13,w14,w15,w16]),boxA b10 69 (cw [w6,w7,w8,w9]),rowA 69 rR p7 c7 (yt n qa qb l i)],[qF true u2_1 u2_2 (yE qa qb (ym l i)),qF true w13 w14 ((ym l ((i+1)%n)).1),qF true w15 w16 ((ym l ((i+1)%n)).2),qF true w6 w7 ((ym l i).1),qF true w8 w9 ((ym l i).2),atF b2 0 [wb0.b,wb0.l,wb1.b,wb1.l,wb2.b,wb2.l,wb3.b,wb3.l],atF b1 0 [wa0.b,wa0.l,wa1.b,wa1.l,wa2.b,wa2.l,wa3.b,wa3.l],slF rR p cap l,qF true wa0 wa1 (qa.1),qF true wa2 wa3 (qa.2),qF true wb0 wb1 (qb.1),qF true wb2 wb3 (qb.2)])) ?_ (fun hD7=> ?_)
  ·
   rintro ⟨u2_1,u2_2,u6_1⟩
   dsimp only [cw]
   refine zdb 5 7 kr ?_ ?_
   ·
    refine zhc (first:=[]) (cap:=[yc (some ⟨b1,0,none⟩),yc (some ⟨b2,0,none⟩)]) rfl rfl rfl rfl rfl (.c rfl .n) ce94 (zob (ba:=b1) (bb:=b2) (wa0:=wa0) (wa1:=wa1) (wa2:=wa2) (wa3:=wa3) (qa:=qa) (wb0:=wb0) (wb1:=wb1) (wb2:=wb2) (wb3:=wb3) (qb:=qb) (wd0:=w13) (wd1:=w14) (wd2:=w15) (wd3:=w16) (qd:=(ym l ((i+1)%n))) (K:=K) (hpa:=ass) (hpb:=ass) (hpd:=cbo) (hK:=cbo)) (.c (j:=6) rfl (.c (j:=5) rfl (.c (j:=8) rfl (.c (j:=9) rfl (.c (j:=10) rfl (.c (j:=11) rfl (.c (j:=1) rfl (.c (j:=2) rfl .n)))))))) ?_
    rintro ⟨u5_1,u5_2⟩ -
    dsimp only [aq,nq,cq]
    exact zH (hD3 (u2_1,u2_2,u5_1,u5_2,u6_1)) kr (mR rfl) .rfl .rfl ((.of [0,1,2,3,4,5,6,7,8,9,10,11,12] rfl):SelR _ _ _)
   ·
    refine zma rfl rfl rfl rfl (zn zr43 rfl) (fun u7_1 _=> ?_)
    exact zH (hD5 (u2_1,u2_2,u6_1,u7_1)) kr (mR rfl) .rfl .rfl ((.of [0,1,2,3,4,5,6,7,8,9,10,11] rfl):SelR _ _ _)
  refine zca (X:=Wd×Wd×Nat) (k':=4) (L':=(lb 10 159)) (fun (u2_1,u2_2,u7_1)=>([(13,yc (some ⟨u7_1,0,none⟩)),(35,.agg (cw [u2_1,u2_2]).toArray),(37,.agg (cw [w13,w14,w15,w16]).toArray),(36,.func (.func 94) #[] #[yc (some ⟨b1,0,none⟩),yc (some ⟨b2,0,none⟩)]),(11,yc (some ⟨b17,0,none⟩)),(10,yc (some ⟨b10,0,none⟩)),(8,.slice p7 ((yt n qa qb l i).length) c7),(20,ya yb ((i:Nat):Int)),(19,ya yb ((n:Nat):Int)),(18,.slice p n cap),(7,.func (.func 94) #[] #[yc (some ⟨b1,0,none⟩),yc (some ⟨b2,0,none⟩)]),(0,.slice p n cap)],[boxA u7_1 43 (cw [wz,wz])],[boxA b17 69 (cw [w13,w14,w15,w16]),boxA b10 69 (cw [w6,w7,w8,w9]),rowA 69 rR p7 c7 (yt n qa qb l i)],[qF true u2_1 u2_2 (yE qa qb (ym l i)),qF true w13 w14 ((ym l ((i+1)%n)).1),qF true w15 w16 ((ym l ((i+1)%n)).2),qF true w6 w7 ((ym l i).1),qF true w8 w9 ((ym l i).2),atF b2 0 [wb0.b,wb0.l,wb1.b,wb1.l,wb2.b,wb2.l,wb3.b,wb3.l],atF b1 0 [wa0.b,wa0.l,wa1.b,wa1.l,wa2.b,wa2.l,wa3.b,wa3.l],slF rR p cap l,qF true wa0 wa1 (qa.1),qF true wa2 wa3 (qa.2),qF true wb0 wb1 (qb.1),qF true wb2 wb3 (qb.2)])) ?_ (fun hD8=> ?_)
  ·
   rintro ⟨u2_1,u2_2,u7_1⟩
   dsimp only [cw]
   refine zdb 5 6 kr ?_ ?_
   ·
    refine zhc (first:=[]) (cap:=[yc (some ⟨b1,0,none⟩),yc (some ⟨b2,0,none⟩)]) rfl rfl rfl rfl rfl (.c rfl .n) ce94 (zob (ba:=b1) (bb:=b2) (wa0:=wa0) (wa1:=wa1) (wa2:=wa2) (wa3:=wa3) (qa:=qa) (wb0:=wb0) (wb1:=wb1) (wb2:=wb2) (wb3:=wb3) (qb:=qb) (wd0:=w13) (wd1:=w14) (wd2:=w15) (wd3:=w16) (qd:=(ym l ((i+1)%n))) (K:=K) (hpa:=ass) (hpb:=ass) (hpd:=cbo) (hK:=cbo)) (.c (j:=6) rfl (.c (j:=5) rfl (.c (j:=8) rfl (.c (j:=9) rfl (.c (j:=10) rfl (.c (j:=11) rfl (.c (j:=1) rfl (.c (j:=2) rfl .n)))))))) ?_
    rintro ⟨u5_1,u5_2⟩ -
    dsimp only [aq,nq,cq]
    exact zH (hD4 (u2_1,u2_2,u5_1,u5_2,u7_1)) kr (mR rfl) .rfl .rfl ((.of [0,1,2,3,4,5,6,7,8,9,10,11,12] rfl):SelR _ _ _)
   ·
    refine zma rfl rfl rfl rfl (zn zr43 rfl) (fun u6_1 _=> ?_)
    exact zH (hD5 (u2_1,u2_2,u6_1,u7_1)) kr (mR rfl) (zJa 1 rfl (zJa 0 rfl .nil)) .rfl ((.of [0,1,2,3,4,5,6,7,8,9,10,11] rfl):SelR _ _ _)
  refine zca (X:=Nat×Nat) (k':=4) (L':=(lb 10 219)) (fun (u6_1,u7_1)=>([(13,yc (some ⟨u7_1,0,none⟩)),(12,yc (some ⟨u6_1,0,none⟩)),(37,.agg (cw [w13,w14,w15,w16]).toArray),(36,.func (.func 94) #[] #[yc (some ⟨b1,0,none⟩),yc (some ⟨b2,0,none⟩)]),(34,.agg (cw [w6,w7,w8,w9]).toArray),(33,.func (.func 94) #[] #[yc (some ⟨b1,0,none⟩),yc (some ⟨b2,0,none⟩)]),(11,yc (some ⟨b17,0,none⟩)),(10,yc (some ⟨b10,0,none⟩)),(8,.slice p7 ((yt n qa qb l i).length) c7),(20,ya yb ((i:Nat):Int)),(19,ya yb ((n:Nat):Int)),(18,.slice p n cap),(7,.func (.func 94) #[] #[yc (some ⟨b1,0,none⟩),yc (some ⟨b2,0,none⟩)]),(0,.slice p n cap)],[boxA u7_1 43 (cw [wz,wz]),boxA u6_1 43 (cw [wz,wz])],[boxA b17 69 (cw [w13,w14,w15,w16]),boxA b10 69 (cw [w6,w7,w8,w9]),rowA 69 rR p7 c7 (yt n qa qb l i)],[qF true w13 w14 ((ym l ((i+1)%n)).1),qF true w15 w16 ((ym l ((i+1)%n)).2),qF true w6 w7 ((ym l i).1),qF true w8 w9 ((ym l i).2),atF b2 0 [wb0.b,wb0.l,wb1.b,wb1.l,wb2.b,wb2.l,wb3.b,wb3.l],atF b1 0 [wa0.b,wa0.l,wa1.b,wa1.l,wa2.b,wa2.l,wa3.b,wa3.l],slF rR p cap l,qF true wa0 wa1 (qa.1),qF true wa2 wa3 (qa.2),qF true wb0 wb1 (qb.1),qF true wb2 wb3 (qb.2)])) ?_ (fun hD9=> ?_)
  ·
   rintro ⟨u6_1,u7_1⟩
   dsimp only [cw]
   refine zya 2 kr ?_
   ·
    refine zhc (first:=[]) (cap:=[yc (some ⟨b1,0,none⟩),yc (some ⟨b2,0,none⟩)]) rfl rfl rfl rfl rfl (.c rfl .n) ce94 (zob (ba:=b1) (bb:=b2) (wa0:=wa0) (wa1:=wa1) (wa2:=wa2) (wa3:=wa3) (qa:=qa) (wb0:=wb0) (wb1:=wb1) (wb2:=wb2) (wb3:=wb3) (qb:=qb) (wd0:=w6) (wd1:=w7) (wd2:=w8) (wd3:=w9) (qd:=(ym l i)) (K:=K) (hpa:=ass) (hpb:=ass) (hpd:=cbo) (hK:=cbo)) (.c (j:=5) rfl (.c (j:=4) rfl (.c (j:=7) rfl (.c (j:=8) rfl (.c (j:=9) rfl (.c (j:=10) rfl (.c (j:=2) rfl (.c (j:=3) rfl .n)))))))) ?_
    rintro ⟨u2_1,u2_2⟩ -
    dsimp only [aq,nq,cq]
    exact zH (hD5 (u2_1,u2_2,u6_1,u7_1)) kr (mR rfl) .rfl .rfl ((.of [0,1,2,3,4,5,6,7,8,9,10,11] rfl):SelR _ _ _)
  refine zca (X:=Wd×Wd) (k':=5) (L':=(lb 10 31)) (fun (u2_1,u2_2)=>([(35,.agg (cw [u2_1,u2_2]).toArray),(37,.agg (cw [w13,w14,w15,w16]).toArray),(36,.func (.func 94) #[] #[yc (some ⟨b1,0,none⟩),yc (some ⟨b2,0,none⟩)]),(11,yc (some ⟨b17,0,none⟩)),(10,yc (some ⟨b10,0,none⟩)),(8,.slice p7 ((yt n qa qb l i).length) c7),(20,ya yb ((i:Nat):Int)),(19,ya yb ((n:Nat):Int)),(18,.slice p n cap),(7,.func (.func 94) #[] #[yc (some ⟨b1,0,none⟩),yc (some ⟨b2,0,none⟩)]),(0,.slice p n cap)],[],[boxA b17 69 (cw [w13,w14,w15,w16]),boxA b10 69 (cw [w6,w7,w8,w9]),rowA 69 rR p7 c7 (yt n qa qb l i)],[qF true u2_1 u2_2 (yE qa qb (ym l i)),qF true w13 w14 ((ym l ((i+1)%n)).1),qF true w15 w16 ((ym l ((i+1)%n)).2),qF true w6 w7 ((ym l i).1),qF true w8 w9 ((ym l i).2),atF b2 0 [wb0.b,wb0.l,wb1.b,wb1.l,wb2.b,wb2.l,wb3.b,wb3.l],atF b1 0 [wa0.b,wa0.l,wa1.b,wa1.l,wa2.b,wa2.l,wa3.b,wa3.l],slF rR p cap l,qF true wa0 wa1 (qa.1),qF true wa2 wa3 (qa.2),qF true wb0 wb1 (qb.1),qF true wb2 wb3 (qb.2)])) ?_ (fun hD10=> ?_)
  ·
   rintro ⟨u2_1,u2_2⟩
   dsimp only [cw]
   refine zsd 5 6 7 kr ?_ ?_ ?_
   ·
    refine zhc (first:=[]) (cap:=[yc (some ⟨b1,0,none⟩),yc (some ⟨b2,0,none⟩)]) rfl rfl rfl rfl rfl (.c rfl .n) ce94 (zob (ba:=b1) (bb:=b2) (wa0:=wa0) (wa1:=wa1) (wa2:=wa2) (wa3:=wa3) (qa:=qa) (wb0:=wb0) (wb1:=wb1) (wb2:=wb2) (wb3:=wb3) (qb:=qb) (wd0:=w13) (wd1:=w14) (wd2:=w15) (wd3:=w16) (qd:=(ym l ((i+1)%n))) (K:=K) (hpa:=ass) (hpb:=ass) (hpd:=cbo) (hK:=cbo)) (.c (j:=6) rfl (.c (j:=5) rfl (.c (j:=8) rfl (.c (j:=9) rfl (.c (j:=10) rfl (.c (j:=11) rfl (.c (j:=1) rfl (.c (j:=2) rfl .n)))))))) ?_
    rintro ⟨u5_1,u5_2⟩ -
    dsimp only [aq,nq,cq]
    exact zH (hD6 (u2_1,u2_2,u5_1,u5_2)) kr (mR rfl) .rfl .rfl ((.of [0,1,2,3,4,5,6,7,8,9,10,11,12] rfl):SelR _ _ _)
   ·
    refine zma rfl rfl rfl rfl (zn zr43 rfl) (fun u6_1 _=> ?_)
    exact zH (hD7 (u2_1,u2_2,u6_1)) kr (mR rfl) .rfl .rfl ((.of [0,1,2,3,4,5,6,7,8,9,10,11] rfl):SelR _ _ _)
   ·
    refine zma rfl rfl rfl rfl (zn zr43 rfl) (fun u7_1 _=> ?_)
    exact zH (hD8 (u2_1,u2_2,u7_1)) kr (mR rfl) .rfl .rfl ((.of [0,1,2,3,4,5,6,7,8,9,10,11] rfl):SelR _ _ _)
  refine zca (X:=Nat) (k':=5) (L':=(lb 10 91)) (fun u6_1=>([(12,yc (some ⟨u6_1,0,none⟩)),(37,.agg (cw [w13,w14,w15,w16]).toArray),(36,.func (.func 94) #[] #[yc (some ⟨b1,0,none⟩),yc (some ⟨b2,0,none⟩)]),(34,.agg (cw [w6,w7,w8,w9]).toArray),(33,.func (.func 94) #[] #[yc (some ⟨b1,0,none⟩),yc (some ⟨b2,0,none⟩)]),(11,yc (some ⟨b17,0,none⟩)),(10,yc (some ⟨b10,0,none⟩)),(8,.slice p7 ((yt n qa qb l i).length) c7),(20,ya yb ((i:Nat):Int)),(19,ya yb ((n:Nat):Int)),(18,.slice p n cap),(7,.func (.func 94) #[] #[yc (some ⟨b1,0,none⟩),yc (some ⟨b2,0,none⟩)]),(0,.slice p n cap)],[boxA u6_1 43 (cw [wz,wz])],[boxA b17 69 (cw [w13,w14,w15,w16]),boxA b10 69 (cw [w6,w7,w8,w9]),rowA 69 rR p7 c7 (yt n qa qb l i)],[qF true w13 w14 ((ym l ((i+1)%n)).1),qF true w15 w16 ((ym l ((i+1)%n)).2),qF true w6 w7 ((ym l i).1),qF true w8 w9 ((ym l i).2),atF b2 0 [wb0.b,wb0.l,wb1.b,wb1.l,wb2.b,wb2.l,wb3.b,wb3.l],atF b1 0 [wa0.b,wa0.l,wa1.b,wa1.l,wa2.b,wa2.l,wa3.b,wa3.l],slF rR p cap l,qF true wa0 wa1 (qa.1),qF true wa2 wa3 (qa.2),qF true wb0 wb1 (qb.1),qF true wb2 wb3 (qb.2)])) ?_ (fun hD11=> ?_)
  ·
   rintro u6_1
   dsimp only [cw]
   refine zdb 2 7 kr ?_ ?_
   ·
    refine zhc (first:=[]) (cap:=[yc (some ⟨b1,0,none⟩),yc (some ⟨b2,0,none⟩)]) rfl rfl rfl rfl rfl (.c rfl .n) ce94 (zob (ba:=b1) (bb:=b2) (wa0:=wa0) (wa1:=wa1) (wa2:=wa2) (wa3:=wa3) (qa:=qa) (wb0:=wb0) (wb1:=wb1) (wb2:=wb2) (wb3:=wb3) (qb:=qb) (wd0:=w6) (wd1:=w7) (wd2:=w8) (wd3:=w9) (qd:=(ym l i)) (K:=K) (hpa:=ass) (hpb:=ass) (hpd:=cbo) (hK:=cbo)) (.c (j:=5) rfl (.c (j:=4) rfl (.c (j:=7) rfl (.c (j:=8) rfl (.c (j:=9) rfl (.c (j:=10) rfl (.c (j:=2) rfl (.c (j:=3) rfl .n)))))))) ?_
    rintro ⟨u2_1,u2_2⟩ -
    dsimp only [aq,nq,cq]
    exact zH (hD7 (u2_1,u2_2,u6_1)) kr (mR rfl) .rfl .rfl ((.of [0,1,2,3,4,5,6,7,8,9,10,11] rfl):SelR _ _ _)
   ·
    refine zma rfl rfl rfl rfl (zn zr43 rfl) (fun u7_1 _=> ?_)
    exact zH (hD9 (u6_1,u7_1)) kr (mR rfl) .rfl .rfl ((.of [0,1,2,3,4,5,6,7,8,9,10] rfl):SelR _ _ _)
  refine zca (X:=Nat) (k':=5) (L':=(lb 10 155)) (fun u7_1=>([(13,yc (some ⟨u7_1,0,none⟩)),(37,.agg (cw [w13,w14,w15,w16]).toArray),(36,.func (.func 94) #[] #[yc (some ⟨b1,0,none⟩),yc (some ⟨b2,0,none⟩)]),(34,.agg (cw [w6,w7,w8,w9]).toArray),(33,.func (.func 94) #[] #[yc (some ⟨b1,0,none⟩),yc (some ⟨b2,0,none⟩)]),(11,yc (some ⟨b17,0,none⟩)),(10,yc (some ⟨b10,0,none⟩)),(8,.slice p7 ((yt n qa qb l i).length) c7),(20,ya yb ((i:Nat):Int)),(19,ya yb ((n:Nat):Int)),(18,.slice p n cap),(7,.func (.func 94) #[] #[yc (some ⟨b1,0,none⟩),yc (some ⟨b2,0,none⟩)]),(0,.slice p n cap)],[boxA u7_1 43 (cw [wz,wz])],[boxA b17 69 (cw [w13,w14,w15,w16]),boxA b10 69 (cw [w6,w7,w8,w9]),rowA 69 rR p7 c7 (yt n qa qb l i)],[qF true w13 w14 ((ym l ((i+1)%n)).1),qF true w15 w16 ((ym l ((i+1)%n)).2),qF true w6 w7 ((ym l i).1),qF true w8 w9 ((ym l i).2),atF b2 0 [wb0.b,wb0.l,wb1.b,wb1.l,wb2.b,wb2.l,wb3.b,wb3.l],atF b1 0 [wa0.b,wa0.l,wa1.b,wa1.l,wa2.b,wa2.l,wa3.b,wa3.l],slF rR p cap l,qF true wa0 wa1 (qa.1),qF true wa2 wa3 (qa.2),qF true wb0 wb1 (qb.1),qF true wb2 wb3 (qb.2)])) ?_ (fun hD12=> ?_)
  ·
   rintro u7_1
   dsimp only [cw]
   refine zdb 2 6 kr ?_ ?_
   ·
    refine zhc (first:=[]) (cap:=[yc (some ⟨b1,0,none⟩),yc (some ⟨b2,0,none⟩)]) rfl rfl rfl rfl rfl (.c rfl .n) ce94 (zob (ba:=b1) (bb:=b2) (wa0:=wa0) (wa1:=wa1) (wa2:=wa2) (wa3:=wa3) (qa:=qa) (wb0:=wb0) (wb1:=wb1) (wb2:=wb2) (wb3:=wb3) (qb:=qb) (wd0:=w6) (wd1:=w7) (wd2:=w8) (wd3:=w9) (qd:=(ym l i)) (K:=K) (hpa:=ass) (hpb:=ass) (hpd:=cbo) (hK:=cbo)) (.c (j:=5) rfl (.c (j:=4) rfl (.c (j:=7) rfl (.c (j:=8) rfl (.c (j:=9) rfl (.c (j:=10) rfl (.c (j:=2) rfl (.c (j:=3) rfl .n)))))))) ?_
    rintro ⟨u2_1,u2_2⟩ -
    dsimp only [aq,nq,cq]
    exact zH (hD8 (u2_1,u2_2,u7_1)) kr (mR rfl) .rfl .rfl ((.of [0,1,2,3,4,5,6,7,8,9,10,11] rfl):SelR _ _ _)
   ·
    refine zma rfl rfl rfl rfl (zn zr43 rfl) (fun u6_1 _=> ?_)
    exact zH (hD9 (u6_1,u7_1)) kr (mR rfl) (zJa 1 rfl (zJa 0 rfl .nil)) .rfl ((.of [0,1,2,3,4,5,6,7,8,9,10] rfl):SelR _ _ _)
  refine zsd 2 6 7 kr ?_ ?_ ?_
  ·
   refine zhc (first:=[]) (cap:=[yc (some ⟨b1,0,none⟩),yc (some ⟨b2,0,none⟩)]) rfl rfl rfl rfl rfl (.c rfl .n) ce94 (zob (ba:=b1) (bb:=b2) (wa0:=wa0) (wa1:=wa1) (wa2:=wa2) (wa3:=wa3) (qa:=qa) (wb0:=wb0) (wb1:=wb1) (wb2:=wb2) (wb3:=wb3) (qb:=qb) (wd0:=w6) (wd1:=w7) (wd2:=w8) (wd3:=w9) (qd:=(ym l i)) (K:=K) (hpa:=ass) (hpb:=ass) (hpd:=cbo) (hK:=cbo)) (.c (j:=5) rfl (.c (j:=4) rfl (.c (j:=7) rfl (.c (j:=8) rfl (.c (j:=9) rfl (.c (j:=10) rfl (.c (j:=2) rfl (.c (j:=3) rfl .n)))))))) ?_
   rintro ⟨u2_1,u2_2⟩ -
   dsimp only [aq,nq,cq]
   exact zH (hD10 (u2_1,u2_2)) kr (mR rfl) .rfl .rfl ((.of [0,1,2,3,4,5,6,7,8,9,10,11] rfl):SelR _ _ _)
  ·
   refine zma rfl rfl rfl rfl (zn zr43 rfl) (fun u6_1 _=> ?_)
   exact zH (hD11 u6_1) kr (mR rfl) .rfl .rfl ((.of [0,1,2,3,4,5,6,7,8,9,10] rfl):SelR _ _ _)
  ·
   refine zma rfl rfl rfl rfl (zn zr43 rfl) (fun u7_1 _=> ?_)
   exact zH (hD12 u7_1) kr (mR rfl) .rfl .rfl ((.of [0,1,2,3,4,5,6,7,8,9,10] rfl):SelR _ _ _)
 ·
  refine zqa<|zk<|zk<|zD<|ze<|zh<|za<|e_mv rfl<|e_p (zd rfl)<|zi<|ze<|zL ?_
  have e41:yt n qa qb l i=Pg.clL qa qb l:=by rw [show i=n by omega,Pg.clL,hn]
  rw [e41]
  exact zx Tryz.results58 (p7,c7) trivial (zl rfl) rfl (ho:=(o0 rfl)) sN
end Go.Proofs.YtjcpbhlijoigfaaGreat.Sp
namespace Go.Proofs.YtjcpbhlijoigfaaGreat.Sp
open Go
set_option linter.unusedVariables false
set_option maxRecDepth 100000
set_option maxHeartbeats 8000000
theorem zRa {s:Bool} {p:Option Addr} {n:Nat} {cap:Nat} {l:List Int} (hn:l.length=n) (ho:yy l) (hln:n≤17592186044416):Con yl 112 [.bool s,.slice p n cap] [] [slF (rI .u32) p cap l] (Y:=(Option Addr)×Nat) (fun y=>True) (fun y=> .agg #[.bool (decide ((yB s (yk l))<0)),.slice (y.1) ((yd ((yB s (yk l)).natAbs)).length) (y.2)]) (fun y=>[]) (fun y=>[slF (rI .u32) (y.1) (y.2) (yd ((yB s (yk l)).natAbs))]):=by
 refine zo Tryz.func112 rfl rfl rfl (fun c=> ?_)
 show RunC _ _ _ _ _ [(0,.bool s),(1,.slice p n cap)] [] [slF (rI .u32) p cap l]
 refine zea 0 rfl (fun hL0=> ?_)
 refine zh<|za<|zP rfl rfl (zn zr41 rfl) (fun b1=> ?_)
 refine zi<|ze<|zh<|za<|e_mv rfl<|e_p (zR ye rfl)<|e_p (zd rfl)<|zi<|ze<|zh<|zE<|zra (X:=Nat) (fun x:Nat=>x≤n∧yA (l.take x)=yA l) (fun x=>[(5,ya yb ((x:Nat):Int)),(4,yc (some ⟨b1,0,none⟩)),(0,.bool s),(1,.slice p n cap)]) (fun x=>[boxA b1 41 [wz.b,wz.l]]) (fun x=>[slF (rI .u32) p cap l]) (fun x:Nat=>x) n (show n≤n∧yA (l.take n)=yA l from by exact ⟨by omega,by rw [List.take_of_length_le om]⟩) (mR rfl) (ho:=(o0 rfl)) (s0 rfl) ?_
 rintro k hI
 replace hI:k≤n∧yA (l.take k)=yA l:=hI
 try dsimp only
 obtain ⟨hk,hT⟩:=hI
 refine zh<|zGa (X:=Unit) (fun x=>True) (fun x=>[(17,.bool (decide (0<k∧l.getD (k - 1) 0=0))),(5,ya yb ((k:Nat):Int)),(4,yc (some ⟨b1,0,none⟩)),(0,.bool s),(1,.slice p n cap)]) (fun x=>[boxA b1 41 [wz.b,wz.l]]) (fun x=>[slF (rI .u32) p cap l]) ?_ ?_
 ·
  refine za<|e_mv rfl<|e_p (zDa rfl rfl)<|zZ rfl rfl (zaa rfl) (fun h2=> ?_) (fun h2=> ?_)
  ·
   refine e_mv rfl<|e_mv rfl<|e_p (zna (z:=(((k:Nat):Int) - 1)) rfl rfl (w64 om))<|zX (x0:=(l.getD ((((k:Nat):Int) - 1).toNat) 0)) 0 ((((k:Nat):Int) - 1).toNat) rfl ye sz121 rfl rfl rfl cbs rfl om (gD (d:=0) om) (fun b3 o4 hok5=> ?_)
   replace hok5:=zI.1 hok5
   refine e_ru (zB (j:=0) 0 ty121 rfl rfl rfl rfl)<|e_p (zxa rfl rfl)<|e_p (zp rfl rfl)<|zi ?_
   exact zha () tt9 ((.e rfl (congrArg Value.bool (by have h1:0<k:=om;have h2:((k:Int) - 1).toNat=k - 1:=om;simp [h1,h2])) (.of rfl)):SubM _ _) (ho:=(o0 rfl)) ((.c (j:=1) rfl .n):SelR _ _ _)
  ·
   refine e_no<|e_no<|e_no<|e_no<|e_no<|e_no<|e_p (zp rfl rfl)<|zi ?_
   exact zha () tt9 ((.e rfl (congrArg Value.bool (by have h1:¬0<k:=om;simp [h1])) (.of rfl)):SubM _ _) (ho:=(o0 rfl)) (s0 rfl)
 ·
  rintro ⟨⟩ -
  try dsimp only
  refine zJ rfl (fun hc=> ?_) (fun hc=> ?_)
  ·
   refine zC<|ze<|zE<|za<|e_mv rfl<|e_p (zna (z:=(((k - 1):Nat):Int)) rfl rfl (w64 om))<|e_p (zd rfl)<|zi<|zT<|zla (k - 1) (show (k - 1)≤n∧yA (l.take (k - 1))=yA l from by exact ⟨by omega,by rw [← hT,Big.trim_go l hc.1 om hc.2]⟩) (by show k - 1<k;omega) ((.e rfl cgs (.of rfl)):SubM _ _) (ho:=(o0 rfl)) (s0 rfl)
  ·
   have htr:l.take k=yd (yB s (yk l)).natAbs:=by rw [Big.sg_abs (yL ho),←Big.digs_valL ho,←hT];exact (Big.trim_stop l om hc).symm
   have hlt:(l.take k).length=k:=by rw [List.length_take];omega
   have hsg:=Big.made_sign (s:=s) ho htr hlt
   refine zqa<|zk<|zk<|zD<|ze<|zh<|za<|e_mv rfl<|zDe rfl rfl (zaa rfl) (fun hs=> ?_) (fun hs=> ?_)
   ·
    refine e_mv rfl<|e_p (zDa rfl rfl)<|e_p (zp rfl rfl)<|zKa rfl rfl (zva (rI .u32) ye inf121) (fun b6 _=> ?_)
    refine e_mv rfl<|e_mv rfl<|e_p (zzb (hi:=k) ye sz121 rfl (.s rfl) (.inr ⟨_,rfl⟩) om)<|zCc (zgc 0 rfl k om) (fun _ _=> ?_)
    refine zQa 0 rfl rfl rfl (zua 0 rfl ye inf121 dd rfl rfl cbs rfl cbs om om) (fun _=> .z) ?_
    rintro ⟨p7,c8⟩ -
    dsimp only [aq,nq,cq]
    refine e_p (zK zr41 rfl yg (.c sz4 (.c sz39 .n)) (.c rfl (.c rfl .n)) (.c rfl rfl rfl (.take .nil) (.c rfl rfl rfl (.skip (.take .nil)) .n)))<|zm 1 rfl rfl rfl rfl rfl sz41 rfl (.t2 .nil) (.s .z)<|zi<|ze<|zL ?_
    subst hs
    refine zVb 0 rfl .z ?_
    exact zx Tryz.results112 (p7,c8) trivial (zv 1 ty41 rfl rfl (.t2 .nil)) (by rw [hsg,←htr,hlt,Nat.zero_add] <;> simp) (ho:=oN) ((.e (j:=0) rfl (by rw [htr] <;> rfl) .n):SelR _ _ _)
   ·
    refine e_no<|e_no<|e_p (zp rfl rfl)<|zKa rfl rfl (zva (rI .u32) ye inf121) (fun b9 _=> ?_)
    refine e_mv rfl<|e_mv rfl<|e_p (zzb (hi:=k) ye sz121 rfl (.s rfl) (.inr ⟨_,rfl⟩) om)<|zCc (zgc 0 rfl k om) (fun _ _=> ?_)
    refine zQa 0 rfl rfl rfl (zua 0 rfl ye inf121 dd rfl rfl cbs rfl cbs om om) (fun _=> .z) ?_
    rintro ⟨p10,c11⟩ -
    dsimp only [aq,nq,cq]
    refine e_p (zK zr41 rfl yg (.c sz4 (.c sz39 .n)) (.c rfl (.c rfl .n)) (.c rfl rfl rfl (.take .nil) (.c rfl rfl rfl (.skip (.take .nil)) .n)))<|zm 1 rfl rfl rfl rfl rfl sz41 rfl (.t2 .nil) (.s .z)<|zi<|ze<|zL ?_
    subst hs
    refine zVb 0 rfl .z ?_
    exact zx Tryz.results112 (p10,c11) trivial (zv 1 ty41 rfl rfl (.t2 .nil)) (by rw [hsg,←htr,hlt,Nat.zero_add] <;> simp) (ho:=oN) ((.e (j:=0) rfl (by rw [htr] <;> rfl) .n):SelR _ _ _)
theorem zrb {s:Bool} {a:Nat} {p:Option Addr} {cap:Nat} (hln:(yd (a)).length≤17592186044416):Con yl 112 [.bool (s),.slice (p) ((yd (a)).length) (cap)] [] [slF (rI .u32) (p) (cap) (yd (a))] (Y:=(Option Addr)×(Nat)) (fun y=>True) (fun y=> .agg #[.bool (decide ((yB s (a:Int))<0)),.slice (y.1) ((yd ((yB s (a:Int)).natAbs)).length) (y.2)]) (fun y=>[]) (fun y=>[slF (rI .u32) (y.1) (y.2) (yd ((yB s (a:Int)).natAbs))]):=by
  have h:= @zRa s p (yd a).length cap (yd a) rfl (yp a) hln
  rw [yx] at h
  exact h
theorem zfb {p:Option Addr} {n:Nat} {cap:Nat} {l:List Int} {i:Nat} (hn:l.length=n) (hi:i≤4611686018427387904):Con yl 143 [.slice p n cap,ya yb ((i:Nat):Int)] [] [slF (rI .u32) p cap l] (Y:=Unit) (fun y=>True) (fun y=> .int .u64 (l.getD i 0)) (fun y=>[]) (fun y=>[]):=by
 refine zo Tryz.func143 rfl rfl rfl (fun c=> ?_)
 show RunC _ _ _ _ _ [(0,.slice p n cap),(1,ya yb ((i:Nat):Int))] [] [slF (rI .u32) p cap l]
 refine zea 0 rfl (fun hL0=> ?_)
 refine zh<|za<|e_p (zd rfl)<|zi<|ze<|zh<|zh<|za<|e_mv rfl<|e_mv rfl<|e_p (zR ye rfl)<|e_p (zda rfl rfl)<|zi<|ze<|zJ rfl (fun h1=> ?_) (fun h1=> ?_)
 ·
  refine zh<|za<|e_mv rfl<|e_mv rfl<|zX (x0:=(l.getD i 0)) 0 i rfl ye sz121 rfl rfl rfl cbs rfl rfl (gD (d:=0) om) (fun b2 o3 hok4=> ?_)
  replace hok4:=zI.1 hok4
  refine e_ru (zB (j:=0) 0 ty121 rfl rfl rfl rfl)<|e_p (zN (z:=(l.getD i 0)) rfl (by rw [yh];rfl) yi (wu64 om))<|e_p (zd rfl)<|zi<|ze<|zL<|zj ?_
  exact zx Tryz.results143 () trivial (zl rfl) rfl (ho:=oN) sN
 ·
  refine zC<|ze<|zh<|za<|e_p (zd rfl)<|zi<|ze<|zL ?_
  exact zx Tryz.results143 () trivial (zl rfl) (by rw [show l.getD i 0=0 by simp [List.getD,List.getElem?_eq_none (show l.length≤i by omega)]]) (ho:=oN) sN
theorem zxc {s:Bool} {p:Option Addr} {n:Nat} {cap:Nat} {l:List Int} (hn:l.length=n):Con yl 122 [.agg #[.bool s,.slice p n cap]] [] [slF (rI .u32) p cap l] (Y:=Unit) (fun y=>True) (fun y=> .bool (decide (Big.canon s l))) (fun y=>[]) (fun y=>[]):=by
 refine zo Tryz.func122 rfl rfl rfl (fun c=> ?_)
 show RunC _ _ _ _ _ [(0,.agg #[.bool s,.slice p n cap])] [] [slF (rI .u32) p cap l]
 refine zea 0 rfl (fun hL0=> ?_)
 refine zh<|za<|zP rfl rfl (zS rfl rfl) (fun b1=> ?_)
 refine e_p (zd rfl)<|zi<|ze<|zh<|za<|e_p (zf yg rfl sz39 rfl rfl)<|e_ru (zg 0 ty39 rfl rfl rfl)<|e_p (zR ye rfl)<|e_p (zd rfl)<|zi<|ze<|zh<|zh<|za<|e_p (zd rfl)<|zi<|ze<|zE<|zra (X:=Nat) (fun x:Nat=>x≤n∧∀j,j<x→l.getD j 0<1000000000) (fun x=>[(4,ya yb ((x:Nat):Int)),(3,ya yb ((n:Nat):Int)),(1,yc (some ⟨b1,0,none⟩))]) (fun x=>[boxA b1 41 [.bool s,.slice p n cap]]) (fun x=>[slF (rI .u32) p cap l]) (fun x:Nat=>n - x) 0 (show 0≤n∧∀j,j<0→l.getD j 0<1000000000 from by exact ⟨by omega,fun j h=>by omega⟩) ((.e rfl cgs (.c rfl (.c rfl .n))):SubM _ _) (ho:=(o0 rfl)) (s0 rfl) ?_
 rintro i hI
 replace hI:i≤n∧∀j,j<i→l.getD j 0<1000000000:=hI
 try dsimp only
 obtain ⟨hi,hall⟩:=hI
 refine zh<|zh<|za<|e_mv rfl<|e_mv rfl<|e_p (zda rfl rfl)<|zi<|ze<|zJ rfl (fun h2=> ?_) (fun h2=> ?_)
 ·
  refine zC<|ze<|zh<|zE<|zh<|za<|e_p (zf yg rfl sz39 rfl rfl)<|e_ru (zg 0 ty39 rfl rfl rfl)<|e_mv rfl<|zX (x0:=(l.getD i 0)) 0 i rfl ye sz121 rfl rfl rfl cbs rfl rfl (gD (d:=0) om) (fun b3 o4 hok5=> ?_)
  replace hok5:=zI.1 hok5
  refine e_ru (zB (j:=0) 0 ty121 rfl rfl rfl rfl)<|e_p (zNa rfl rfl)<|zi<|ze<|zJ rfl (fun hb=> ?_) (fun hb=> ?_)
  ·
   refine zh<|za<|e_p (zd rfl)<|zi<|ze<|zL<|zy<|zj<|zj<|zy<|zj ?_
   exact zx Tryz.results122 () trivial (zl rfl) (congrArg Value.bool (decide_eq_false (fun h=>((Big.canon_more om).1 h).2 ⟨_,Big.getD_mem om,hb⟩))) (ho:=oN) sN
  ·
   refine zC<|zT<|ze<|za<|e_mv rfl<|e_p (zO (z:=(((i+1):Nat):Int)) rfl rfl (w64 om))<|e_p (zd rfl)<|zi<|zla (i+1) (show (i+1)≤n∧∀j,j<(i+1)→l.getD j 0<1000000000 from by refine ⟨by omega,fun j hj=> ?_⟩;by_cases e:j=i;subst e;omega;exact hall j om) (by show n - (i+1)<n - i;omega) (mR rfl) (ho:=(o0 rfl)) ((.c (j:=1) rfl .n):SelR _ _ _)
 ·
  refine zqa<|zk<|zk<|zD<|ze<|zh<|zh<|za<|e_mv rfl<|e_p (zxa rfl rfl)<|zi<|ze<|zJ rfl (fun h0=> ?_) (fun h0=> ?_)
  ·
   refine zh<|za<|e_p (zf yg rfl sz4 rfl rfl)<|e_ru (zg 0 ty4 rfl rfl rfl)<|e_p (zOb rfl)<|e_p (zd rfl)<|zi<|ze<|zL<|zj ?_
   exact zx Tryz.results122 () trivial (zl rfl) (congrArg Value.bool (by have:l.length=0:=om;cases s <;> simp [Big.canon,this])) (ho:=oN) sN
  ·
   refine zC<|ze<|zh<|za<|e_p (zf yg rfl sz39 rfl rfl)<|e_ru (zg 0 ty39 rfl rfl rfl)<|e_mv rfl<|e_p (zna (z:=(((n:Nat):Int) - 1)) rfl rfl (w64 om))<|zX (x0:=(l.getD ((((n:Nat):Int) - 1).toNat) 0)) 0 ((((n:Nat):Int) - 1).toNat) rfl ye sz121 rfl rfl rfl cbs rfl om (gD (d:=0) om) (fun b6 o7 hok8=> ?_)
   replace hok8:=zI.1 hok8
   refine e_ru (zB (j:=0) 0 ty121 rfl rfl rfl rfl)<|e_p (zXa rfl rfl)<|e_p (zd rfl)<|zi<|ze<|zL ?_
   exact zx Tryz.results122 () trivial (zl rfl) (congrArg Value.bool (decide_eq_decide.2 (by rw [Big.canon_more om,hn];have e:((n:Int) - 1).toNat=n - 1:=om;rw [e];exact ⟨fun h=>h.1,fun h=>⟨h,fun ⟨g,hg,hb⟩=>by obtain ⟨j,hj,e⟩:=Big.mem_getD hg;have:=hall j om;omega⟩⟩))) (ho:=oN) sN
theorem zVa {s:Bool} {p:Option Addr} {n:Nat} {cap:Nat} {l:List Int} (hn:l.length=n) (hln:n≤4398046511104):Con yl 111 [.agg #[.bool s,.slice p n cap]] [] [slF (rI .u32) p cap l] (Y:=(Option Addr)×Nat) (fun y=>True) (fun y=> .agg #[.bool (decide ((yf s l)<0)),.slice (y.1) ((yd ((yf s l).natAbs)).length) (y.2)]) (fun y=>[]) (fun y=>[slF (rI .u32) (y.1) (y.2) (yd ((yf s l).natAbs))]):=by
 refine zo Tryz.func111 rfl rfl rfl (fun c=> ?_)
 show RunC _ _ _ _ _ [(0,.agg #[.bool s,.slice p n cap])] [] [slF (rI .u32) p cap l]
 refine zea 0 rfl (fun hL0=> ?_)
 refine zZa 0 rfl (fun hE0=> ?_)
 have hnn:yH l:=fun g hg=>(zI.1 (hE0 g hg)).1
 refine zh<|za<|zP rfl rfl (zS rfl rfl) (fun b1=> ?_)
 refine zP rfl rfl (zn zr41 rfl) (fun b2=> ?_)
 refine zi<|ze<|zh<|zh<|za<|e_ru (zb 1 ty41 rfl rfl (.t2 .nil))<|zQ rfl rfl (.c rfl .n) ce122 (zxc (s:=s) (p:=p) (n:=n) (cap:=cap) (l:=l) (hn:=ass)) (.c (j:=0) rfl .n)<|e_p (zgb rfl)<|zi<|ze<|zJ rfl (fun hc=> ?_) (fun hc=> ?_)
 ·
  refine zh<|za<|e_p (zK zr41 rfl yg (.c sz4 (.c sz39 .n)) .n .n)<|zm 0 rfl rfl rfl rfl rfl sz41 rfl (.t2 .nil) .z<|zi<|ze<|zL<|zj ?_
  have hz:yf s l=0:=by unfold yf;rw [if_neg hc]
  refine zGd (rI .u32) ?_
  exact zx Tryz.results111 (none,0) trivial (zv 0 ty41 rfl rfl (.t2 .nil)) (by rw [hz];rfl) (ho:=oN) ((.e (j:=0) rfl (by rw [hz];rfl) .n):SelR _ _ _)
 ·
  refine zC<|ze<|zh<|zY (OW:=[boxA b2 41 [wz.b,wz.l]]) (O:=[boxA b1 41 [.bool s,.slice p n cap]]) 5 mixed (.then .ret) kr<|e_pv 0 rfl rfl (zf yg rfl sz4 rfl rfl)<|e_u 1 rfl rfl (zg 0 ty4 rfl rfl rfl)<|e_pv 3 rfl rfl (zf yg rfl sz39 rfl rfl)<|e_uw 4 rfl rfl (zg 1 ty39 rfl rfl rfl)<|e_one 2 (zma rfl rfl rfl rfl (zva (rI .u32) ye inf121) (fun b3 _=> ?_))
  refine e_one 5 (zae (A':=fun v:Option Addr×Nat=>rowA 121 (rI .u32) v.1 v.2 (([])++l)) kr rfl rfl rfl (zua 0 rfl ye inf121 dd rfl rfl cbs rfl cbs om om) ?_)
  rintro ⟨p4,c5⟩ -
  dsimp only [aq,nq,cq]
  refine e_pv 6 rfl rfl (zK zr41 rfl yg (.c sz4 (.c sz39 .n)) (.c rfl (.c rfl .n)) (.c rfl rfl rfl (.take .nil) (.c rfl rfl rfl (.skip (.take .nil)) .n)))<|zeb (zfa (i:=1) rfl)<|e_one 7 (zr kr rfl rfl rfl rfl rfl sz41 rfl (.t2 .nil) ?_)
  refine zW kr<|ze<|zL ?_
  have hcc:Big.canon s l:=Decidable.not_not.1 hc
  have hd:yd (yf s l).natAbs=l:=by rw [Big.raw_digs hnn,if_pos hcc]
  have hs:=Big.raw_sign hnn hcc
  refine zVb 1 rfl (.s .z) ?_
  exact zx Tryz.results111 (p4,c5) trivial (zv 0 ty41 rfl rfl (.t2 .nil)) (by rw [hs,hd,hn,Nat.zero_add]) (ho:=oN) ((.e (j:=0) rfl (by rw [hd] <;> rfl) .n):SelR _ _ _)
theorem zbd {z:Int} {p:Option Addr} {cap:Nat} (hln:yo z≤4398046511104):Con yl 111 [.agg #[.bool (decide ((z)<0)),.slice (p) ((yd ((z).natAbs)).length) (cap)]] [] [slF (rI .u32) (p) (cap) (yd ((z).natAbs))] (Y:=(Option Addr)×(Nat)) (fun y=>True) (fun y=> .agg #[.bool (decide ((z)<0)),.slice (y.1) ((yd ((z).natAbs)).length) (y.2)]) (fun y=>[]) (fun y=>[slF (rI .u32) (y.1) (y.2) (yd ((z).natAbs))]):=by
  have h:= @zVa (decide ((z)<0)) p (yd (z).natAbs).length cap (yd (z).natAbs) rfl hln
  rw [yu] at h
  exact h
theorem zFf {z:Int} (hz: -9223372036854775808≤z∧z≤9223372036854775807):Con yl 113 [ya yb z] [] [] (Y:=(Option Addr)×Nat) (fun y=>True) (fun y=> .agg #[.bool (decide (z<0)),.slice (y.1) ((yd ((z).natAbs)).length) (y.2)]) (fun y=>[]) (fun y=>[slF (rI .u32) (y.1) (y.2) (yd ((z).natAbs))]):=by
 refine zo Tryz.func113 rfl rfl rfl (fun c=> ?_)
 show RunC _ _ _ _ _ [(0,ya yb z)] [] []
 refine zh<|za<|zP rfl rfl (zn zr41 rfl) (fun b1=> ?_)
 refine zi<|ze<|zh<|za<|e_mv rfl<|e_p (zN (z:=(z%18446744073709551616)) rfl (by rw [Tryz.underlying3];rfl) yi (wu64m om))<|e_p (zd rfl)<|zi<|ze<|zGa (X:=Unit) (fun x=>True) (fun x=>[(3,.int .u64 ((z.natAbs:Nat):Int)),(2,yc (some ⟨b1,0,none⟩)),(0,ya yb z)]) (fun x=>[boxA b1 41 [wz.b,wz.l]]) (fun x=>[]) ?_ ?_
 ·
  refine zh<|za<|e_mv rfl<|e_p (zda rfl rfl)<|zi<|ze<|zJ rfl (fun hs=> ?_) (fun hs=> ?_)
  ·
   refine za<|e_mv rfl<|e_p (zO (z:=(z+1)) rfl rfl (w64 om))<|e_p (zDd (z:=(-(z+1))) rfl (w64 om))<|e_p (zN (z:=(-(z+1))) rfl (by rw [Tryz.underlying3];rfl) yi (wu64 om))<|e_p (zO (z:=((z.natAbs:Nat):Int)) rfl rfl (wu64 om))<|e_p (zd rfl)<|zi ?_
   exact zha () tt9 (mR rfl) (ho:=(o0 rfl)) sN
  ·
   have e2:((z%18446744073709551616):Int)=((z.natAbs:Nat):Int):=by omega
   rw [e2]
   refine zC ?_
   exact zha () tt9 (mR rfl) (ho:=(o0 rfl)) sN
 ·
  rintro ⟨⟩ -
  try dsimp only
  refine zh<|za<|zKa rfl rfl (zva (rI .u32) ye inf121) (fun b3 _=> ?_)
  refine e_p (zd rfl)<|zi<|ze<|zh<|zE<|zra (X:=Nat×(Option Addr)×Nat×(List Int)) (fun x:Nat×(Option Addr)×Nat×(List Int)=>x.1≤z.natAbs∧x.2.2.2++yd x.1=yd z.natAbs) (fun x=>[(4,.slice (x.2.1) (x.2.2.2.length) (x.2.2.1)),(3,.int .u64 ((x.1:Nat):Int)),(2,yc (some ⟨b1,0,none⟩)),(0,ya yb z)]) (fun x=>[rowA 121 (rI .u32) (x.2.1) (x.2.2.1) (x.2.2.2),boxA b1 41 [wz.b,wz.l]]) (fun x=>[]) (fun x:Nat×(Option Addr)×Nat×(List Int)=>x.1) (z.natAbs,some ⟨b3,0,none⟩,0,[]) (show z.natAbs≤z.natAbs∧([])++yd z.natAbs=yd z.natAbs from by exact ⟨Nat.le_refl _,rfl⟩) ((.e rfl cgs (.of rfl)):SubM _ _) (ho:=((.of [0,0] rfl):PickO _ _ _)) sN ?_
  rintro ⟨m,p,c,os⟩ hI
  replace hI:m≤z.natAbs∧os++yd m=yd z.natAbs:=hI
  try dsimp only
  obtain ⟨hnn,hos⟩:=hI
  have hlen0:os.length+(yd m).length≤3:=by have:=congrArg List.length hos;rw [List.length_append] at this;have:=Big.ztf (show z.natAbs<18446744073709551616 by omega);omega
  refine zh<|zh<|za<|e_mv rfl<|e_p (zDa rfl rfl)<|zi<|ze<|zJ rfl (fun h4=> ?_) (fun h4=> ?_)
  ·
   refine zC<|ze<|zE<|zh<|za<|e_mv rfl<|e_mv rfl<|e_p (zza (z:=(((m%1000000000):Nat):Int)) rfl rfl om (remN om om))<|e_p (zN (z:=(((m%1000000000):Nat):Int)) rfl (by rw [yi];rfl) yh (wu32 om))<|zKa rfl rfl (zba (enc:=fun z:Int=>[.int .u32 z]) (ok:=InK .u32) (h1:=fun _=>rfl) (h2:=fun _=>rfl) (k:=1) ye inf121 rfl dd dd dd (.c (x:=(((m%1000000000):Nat):Int)) rfl rfl (fun _ _=>by exact zI.2 om) .n)) (fun b5 _=> ?_)
   refine zka 0 rfl .z<|zQa 1 rfl rfl rfl (zua 0 rfl ye inf121 dd rfl rfl cbs rfl cbs om om) (fun _=>(.s .z)) ?_
   rintro ⟨p6,c7⟩ -
   dsimp only [aq,nq,cq]
   refine e_p (zd rfl)<|zi<|ze<|za<|e_mv rfl<|e_p (zmb (z:=(((m / 1000000000):Nat):Int)) rfl rfl om (by rw [quoN (z:=(((m / 1000000000):Nat):Int)) om om];exact wu64 om))<|e_p (zd rfl)<|zi<|zT<|zla ((m / 1000000000),p6,c7,os++[((m%1000000000:Nat):Int)]) (show (m / 1000000000)≤z.natAbs∧(os++[((m%1000000000:Nat):Int)])++yd (m / 1000000000)=yd z.natAbs from by exact ⟨by omega,Big.split_step om hos⟩) (by show m / 1000000000<m;omega) ((.e rfl (by simp) (.of rfl)):SubM _ _) (ho:=((.e (i:=1) rfl cgs (.c (i:=1) rfl .n)):PickO _ _ _)) sN
  ·
   have hm0:m=0:=by omega
   subst hm0
   have hd:os=yd z.natAbs:=by simpa [Big.digs_zero] using hos
   have hok:yy os:=by rw [hd];exact yp _
   have hlen:os.length≤3:=by rw [hd];exact Big.ztf om
   have hsg:yB (decide (z<0)) (yk os)=z:=by rw [hd,yx];exact Big.sg_big z
   refine zqa<|zk<|zk<|zD<|ze<|zh<|za<|e_mv rfl<|e_p (zda rfl rfl)<|e_mv rfl<|zka 0 rfl .z<|zG rfl rfl (.c rfl (.c rfl .n)) ce112 (zRa (s:=decide (z<0)) (p:=p) (n:=os.length) (cap:=c) (l:=os) (hn:=by first|rfl|omega) (ho:=by exact hok) (hln:=by first|rfl|omega)) (.c (j:=0) rfl .n) ?_
   rintro ⟨p28,c29⟩ -
   dsimp only [aq,nq,cq]
   refine zm 1 rfl rfl rfl rfl rfl sz41 rfl (.t2 .nil) (.s .z)<|zi<|ze<|zL ?_
   exact zx Tryz.results113 (p28,c29) trivial (zv 1 ty41 rfl rfl (.t2 .nil)) (by rw [hsg]) (ho:=oN) ((.e (j:=0) rfl (by rw [hsg]) .n):SelR _ _ _)
theorem zGf {a:Nat} {b:Nat} {p1:Option Addr} {c1:Nat} {p2:Option Addr} {c2:Nat} (hb1:(yd a).length≤4398046511104) (hb2:(yd b).length≤4398046511104):Con yl 128 [.slice p1 ((yd a).length) c1,.slice p2 ((yd b).length) c2] [] [slF (rI .u32) p1 c1 (yd a),slF (rI .u32) p2 c2 (yd b)] (Y:=(Option Addr)×Nat) (fun y=>True) (fun y=> .slice (y.1) ((yd (a+b)).length) (y.2)) (fun y=>[]) (fun y=>[slF (rI .u32) (y.1) (y.2) (yd (a+b))]):=by
 refine zo Tryz.func128 rfl rfl rfl (fun c=> ?_)
 show RunC _ _ _ _ _ [(0,.slice p1 ((yd a).length) c1),(1,.slice p2 ((yd b).length) c2)] [] [slF (rI .u32) p1 c1 (yd a),slF (rI .u32) p2 c2 (yd b)]
 refine zea 0 rfl (fun hL0=> ?_)
 refine zea 1 rfl (fun hL1=> ?_)
 refine zh<|za<|e_p (zd rfl)<|zi<|ze<|zh<|za<|zKa rfl rfl (zva (rI .u32) ye inf121) (fun b1 _=> ?_)
 refine e_p (zd rfl)<|zi<|ze<|zh<|za<|e_p (zd rfl)<|zi<|ze<|zh<|zh<|za<|e_p (zd rfl)<|zi<|ze<|zE<|zra (X:=Nat×(Option Addr)×Nat×(List Int)×Int) (fun x:Nat×(Option Addr)×Nat×(List Int)×Int=>x.1≤max (yd a).length (yd b).length∧x.2.2.2.1.length=x.1∧0≤x.2.2.2.2∧x.2.2.2.2≤1∧yy x.2.2.2.1∧yk x.2.2.2.1+yM x.1*x.2.2.2.2=yk ((yd a).take x.1)+yk ((yd b).take x.1)) (fun x=>[(6,.int .u64 (x.2.2.2.2)),(5,.slice (x.2.1) (x.2.2.2.1.length) (x.2.2.1)),(7,ya yb ((x.1:Nat):Int)),(4,.slice none 0 0),(0,.slice p1 ((yd a).length) c1),(1,.slice p2 ((yd b).length) c2)]) (fun x=>[rowA 121 (rI .u32) (x.2.1) (x.2.2.1) (x.2.2.2.1)]) (fun x=>[slF (rI .u32) p1 c1 (yd a),slF (rI .u32) p2 c2 (yd b)]) (fun x:Nat×(Option Addr)×Nat×(List Int)×Int=>max (yd a).length (yd b).length - x.1) (0,some ⟨b1,0,none⟩,0,[],0) (show 0≤max (yd a).length (yd b).length∧([]).length=0∧0≤0∧0≤1∧yy ([])∧yk ([])+yM 0*0=yk ((yd a).take 0)+yk ((yd b).take 0) from by exact ⟨by omega,rfl,by decide,by decide,Big.okL_nil,by simp [yk]⟩) ((.c rfl (.e rfl cgs (.e rfl cgs (.of rfl)))):SubM _ _) (ho:=(o0 rfl)) ((.of [0,1] rfl):SelR _ _ _) ?_
 rintro ⟨i,p,c,os,cy⟩ hI
 replace hI:i≤max (yd a).length (yd b).length∧os.length=i∧0≤cy∧cy≤1∧yy os∧yk os+yM i*cy=yk ((yd a).take i)+yk ((yd b).take i):=hI
 try dsimp only
 obtain ⟨hi,hol,hc0,hc1,hok,hv⟩:=hI
 have hg1:=yq (yp a) i
 have hg2:=yq (yp b) i
 refine zh<|zGa (X:=Unit) (fun x=>True) (fun x=>[(19,.bool (decide (i<(yd a).length∨i<(yd b).length))),(6,.int .u64 cy),(5,.slice p (os.length) c),(7,ya yb ((i:Nat):Int)),(4,.slice none 0 0),(0,.slice p1 ((yd a).length) c1),(1,.slice p2 ((yd b).length) c2)]) (fun x=>[rowA 121 (rI .u32) p c os]) (fun x=>[slF (rI .u32) p1 c1 (yd a),slF (rI .u32) p2 c2 (yd b)]) ?_ ?_
 ·
  refine za<|e_mv rfl<|e_mv rfl<|e_p (zR ye rfl)<|e_p (zda rfl rfl)<|zZ rfl rfl (zaa rfl) (fun h2=> ?_) (fun h2=> ?_)
  ·
   refine e_no<|e_no<|e_no<|e_no<|e_p (zp rfl rfl)<|zi ?_
   exact zha () tt9 ((.e rfl (congrArg Value.bool (by simp;omega)) (.of rfl)):SubM _ _) (ho:=(o0 rfl)) ((.of [0,1] rfl):SelR _ _ _)
  ·
   refine e_mv rfl<|e_mv rfl<|e_p (zR ye rfl)<|e_p (zda rfl rfl)<|e_p (zp rfl rfl)<|zi ?_
   exact zha () tt9 ((.e rfl (congrArg Value.bool (by simp;omega)) (.of rfl)):SubM _ _) (ho:=(o0 rfl)) ((.of [0,1] rfl):SelR _ _ _)
 ·
  rintro ⟨⟩ -
  try dsimp only
  refine zJ rfl (fun hc=> ?_) (fun hc=> ?_)
  ·
   refine zC<|ze<|zh<|zE<|zh<|za<|e_mv rfl<|e_mv rfl<|zQ rfl rfl (.c rfl (.c rfl .n)) ce143 (zfb (p:=p1) (n:=(yd a).length) (cap:=c1) (l:=yd a) (i:=i) (hn:=cbb) (hi:=cbb)) (.c (j:=0) rfl .n)<|e_mv rfl<|e_mv rfl<|zQ rfl rfl (.c rfl (.c rfl .n)) ce143 (zfb (p:=p2) (n:=(yd b).length) (cap:=c2) (l:=yd b) (i:=i) (hn:=cbb) (hi:=cbb)) (.c (j:=1) rfl .n)<|e_p (zO (z:=((yd a).getD i 0+(yd b).getD i 0)) rfl rfl (wu64 om))<|e_mv rfl<|e_p (zO (z:=(((yd a).getD i 0+(yd b).getD i 0)+cy)) rfl rfl (wu64 om))<|e_p (zd rfl)<|zi<|ze<|zh<|za<|e_mv rfl<|e_mv rfl<|e_p (zza (z:=((((yd a).getD i 0+(yd b).getD i 0)+cy)%1000000000)) rfl rfl om (remN om om))<|e_p (zN (z:=((((yd a).getD i 0+(yd b).getD i 0)+cy)%1000000000)) rfl (by rw [yi];rfl) yh (wu32 om))<|zKa rfl rfl (zba (enc:=fun z:Int=>[.int .u32 z]) (ok:=InK .u32) (h1:=fun _=>rfl) (h2:=fun _=>rfl) (k:=1) ye inf121 rfl dd dd dd (.c (x:=((((yd a).getD i 0+(yd b).getD i 0)+cy)%1000000000)) rfl rfl (fun _ _=>by exact zI.2 om) .n)) (fun b3 _=> ?_)
   refine zka 0 rfl .z<|zQa 1 rfl rfl rfl (zua 0 rfl ye inf121 dd rfl rfl cbs rfl cbs om om) (fun _=>(.s .z)) ?_
   rintro ⟨p4,c5⟩ -
   dsimp only [aq,nq,cq]
   refine e_p (zd rfl)<|zi<|ze<|za<|e_mv rfl<|e_p (zmb (z:=((((yd a).getD i 0+(yd b).getD i 0)+cy) / 1000000000)) rfl rfl om (by rw [quoN (z:=((((yd a).getD i 0+(yd b).getD i 0)+cy) / 1000000000)) om om];exact wu64 om))<|e_p (zd rfl)<|zi<|zT<|ze<|za<|e_mv rfl<|e_p (zO (z:=(((i+1):Nat):Int)) rfl rfl (w64 om))<|e_p (zd rfl)<|zi<|zla ((i+1),p4,c5,os++[((yd a).getD i 0+(yd b).getD i 0+cy)%1000000000],((yd a).getD i 0+(yd b).getD i 0+cy) / 1000000000) (show (i+1)≤max (yd a).length (yd b).length∧(os++[((yd a).getD i 0+(yd b).getD i 0+cy)%1000000000]).length=(i+1)∧0≤(((yd a).getD i 0+(yd b).getD i 0+cy) / 1000000000)∧(((yd a).getD i 0+(yd b).getD i 0+cy) / 1000000000)≤1∧yy (os++[((yd a).getD i 0+(yd b).getD i 0+cy)%1000000000])∧yk (os++[((yd a).getD i 0+(yd b).getD i 0+cy)%1000000000])+yM (i+1)*(((yd a).getD i 0+(yd b).getD i 0+cy) / 1000000000)=yk ((yd a).take (i+1))+yk ((yd b).take (i+1)) from by exact ⟨by omega,by simp [hol],by omega,by omega,yR hok om om,Big.plus_step hol hv om⟩) (by show max (yd a).length (yd b).length - (i+1)<max (yd a).length (yd b).length - i;omega) ((.e rfl cgs (.e rfl (by simp) (.of rfl))):SubM _ _) (ho:=((.e (i:=1) rfl cgs .n):PickO _ _ _)) ((.of [1,2] rfl):SelR _ _ _)
  ·
   have hok2:=yR hok hc0 (show cy<1000000000 by omega)
   have hfin:=Big.plus_end (a:=a) (b:=b) hol om om hv
   refine zqa<|zk<|zk<|zD<|ze<|zh<|za<|e_mv rfl<|e_mv rfl<|e_p (zN (z:=cy) rfl (by rw [yi];rfl) yh (wu32 om))<|zKa rfl rfl (zba (enc:=fun z:Int=>[.int .u32 z]) (ok:=InK .u32) (h1:=fun _=>rfl) (h2:=fun _=>rfl) (k:=1) ye inf121 rfl dd dd dd (.c (x:=cy) rfl rfl (fun _ _=>by exact zI.2 om) .n)) (fun b6 _=> ?_)
   refine zka 0 rfl .z<|zQa 1 rfl rfl rfl (zua 0 rfl ye inf121 dd rfl rfl cbs rfl cbs om om) (fun _=>(.s .z)) ?_
   rintro ⟨p7,c8⟩ -
   dsimp only [aq,nq,cq]
   refine zka 1 rfl (.s .z)<|zG rfl rfl (.c rfl (.c rfl .n)) ce112 (zRa (s:=false) (p:=p7) (n:=os.length+1) (cap:=c8) (l:=(os++([cy]))) (hn:=by first|rfl|omega|(simp;done)|(simp;omega)) (ho:=by exact hok2) (hln:=by first|rfl|omega|(simp;done)|(simp;omega))) (.c (j:=0) rfl .n) ?_
   rintro ⟨p29,c210⟩ -
   dsimp only [aq,nq,cq]
   refine e_p (zFa yg rfl ty39 rfl rfl)<|e_p (zd rfl)<|zi<|ze<|zL ?_
   exact zx Tryz.results128 (p29,c210) trivial (zl rfl) (by rw [hfin]) (ho:=oN) ((.e (j:=0) rfl (by rw [hfin]) .n):SelR _ _ _)
theorem zXb {a:Nat} {b:Nat} {p1:Option Addr} {c1:Nat} {p2:Option Addr} {c2:Nat} (hb1:(yd a).length≤4398046511104) (hb2:(yd b).length≤4398046511104) (hab:b≤a):Con yl 130 [.slice p1 ((yd a).length) c1,.slice p2 ((yd b).length) c2] [] [slF (rI .u32) p1 c1 (yd a),slF (rI .u32) p2 c2 (yd b)] (Y:=(Option Addr)×Nat) (fun y=>True) (fun y=> .slice (y.1) ((yd (a - b)).length) (y.2)) (fun y=>[]) (fun y=>[slF (rI .u32) (y.1) (y.2) (yd (a - b))]):=by
 refine zo Tryz.func130 rfl rfl rfl (fun c=> ?_)
 show RunC _ _ _ _ _ [(0,.slice p1 ((yd a).length) c1),(1,.slice p2 ((yd b).length) c2)] [] [slF (rI .u32) p1 c1 (yd a),slF (rI .u32) p2 c2 (yd b)]
 refine zea 0 rfl (fun hL0=> ?_)
 refine zea 1 rfl (fun hL1=> ?_)
 refine zh<|za<|e_p (zd rfl)<|zi<|ze<|zh<|za<|zKa rfl rfl (zva (rI .u32) ye inf121) (fun b1 _=> ?_)
 refine e_p (zd rfl)<|zi<|ze<|zh<|za<|e_p (zd rfl)<|zi<|ze<|zh<|zh<|za<|e_p (zd rfl)<|zi<|ze<|zE<|zra (X:=Nat×(Option Addr)×Nat×(List Int)×Int) (fun x:Nat×(Option Addr)×Nat×(List Int)×Int=>x.1≤(yd a).length∧x.2.2.2.1.length=x.1∧0≤x.2.2.2.2∧x.2.2.2.2≤1∧yy x.2.2.2.1∧yk x.2.2.2.1+yk ((yd b).take x.1)=yk ((yd a).take x.1)+yM x.1*x.2.2.2.2) (fun x=>[(6,.int .u64 (x.2.2.2.2)),(5,.slice (x.2.1) (x.2.2.2.1.length) (x.2.2.1)),(7,ya yb ((x.1:Nat):Int)),(4,.slice none 0 0),(0,.slice p1 ((yd a).length) c1),(1,.slice p2 ((yd b).length) c2)]) (fun x=>[rowA 121 (rI .u32) (x.2.1) (x.2.2.1) (x.2.2.2.1)]) (fun x=>[slF (rI .u32) p1 c1 (yd a),slF (rI .u32) p2 c2 (yd b)]) (fun x:Nat×(Option Addr)×Nat×(List Int)×Int=>(yd a).length - x.1) (0,some ⟨b1,0,none⟩,0,[],0) (show 0≤(yd a).length∧([]).length=0∧0≤0∧0≤1∧yy ([])∧yk ([])+yk ((yd b).take 0)=yk ((yd a).take 0)+yM 0*0 from by exact ⟨by omega,rfl,by decide,by decide,Big.okL_nil,by simp [yk]⟩) ((.c rfl (.e rfl cgs (.e rfl cgs (.of rfl)))):SubM _ _) (ho:=(o0 rfl)) ((.of [0,1] rfl):SelR _ _ _) ?_
 rintro ⟨i,p,c,os,bo⟩ hI
 replace hI:i≤(yd a).length∧os.length=i∧0≤bo∧bo≤1∧yy os∧yk os+yk ((yd b).take i)=yk ((yd a).take i)+yM i*bo:=hI
 try dsimp only
 obtain ⟨hi,hol,hc0,hc1,hok,hv⟩:=hI
 have hg1:=yq (yp a) i
 have hg2:=yq (yp b) i
 refine zh<|zh<|za<|e_mv rfl<|e_mv rfl<|e_p (zR ye rfl)<|e_p (zda rfl rfl)<|zi<|ze<|zJ rfl (fun h2=> ?_) (fun h2=> ?_)
 ·
  refine zC<|ze<|zh<|zE<|zh<|za<|e_mv rfl<|e_mv rfl<|zQ rfl rfl (.c rfl (.c rfl .n)) ce143 (zfb (p:=p1) (n:=(yd a).length) (cap:=c1) (l:=yd a) (i:=i) (hn:=cbb) (hi:=cbb)) (.c (j:=0) rfl .n)<|e_p (zO (z:=(1000000000+(yd a).getD i 0)) rfl rfl (wu64 om))<|e_mv rfl<|e_mv rfl<|zQ rfl rfl (.c rfl (.c rfl .n)) ce143 (zfb (p:=p2) (n:=(yd b).length) (cap:=c2) (l:=yd b) (i:=i) (hn:=cbb) (hi:=cbb)) (.c (j:=1) rfl .n)<|e_p (zna (z:=((1000000000+(yd a).getD i 0) - (yd b).getD i 0)) rfl rfl (wu64 om))<|e_mv rfl<|e_p (zna (z:=(((1000000000+(yd a).getD i 0) - (yd b).getD i 0) - bo)) rfl rfl (wu64 om))<|e_p (zd rfl)<|zi<|ze<|zh<|za<|e_mv rfl<|e_mv rfl<|e_p (zza (z:=((((1000000000+(yd a).getD i 0) - (yd b).getD i 0) - bo)%1000000000)) rfl rfl om (remN om om))<|e_p (zN (z:=((((1000000000+(yd a).getD i 0) - (yd b).getD i 0) - bo)%1000000000)) rfl (by rw [yi];rfl) yh (wu32 om))<|zKa rfl rfl (zba (enc:=fun z:Int=>[.int .u32 z]) (ok:=InK .u32) (h1:=fun _=>rfl) (h2:=fun _=>rfl) (k:=1) ye inf121 rfl dd dd dd (.c (x:=((((1000000000+(yd a).getD i 0) - (yd b).getD i 0) - bo)%1000000000)) rfl rfl (fun _ _=>by exact zI.2 om) .n)) (fun b3 _=> ?_)
  refine zka 0 rfl .z<|zQa 1 rfl rfl rfl (zua 0 rfl ye inf121 dd rfl rfl cbs rfl cbs om om) (fun _=>(.s .z)) ?_
  rintro ⟨p4,c5⟩ -
  dsimp only [aq,nq,cq]
  refine e_p (zd rfl)<|zi<|ze<|za<|e_mv rfl<|e_p (zmb (z:=((((1000000000+(yd a).getD i 0) - (yd b).getD i 0) - bo) / 1000000000)) rfl rfl om (by rw [quoN (z:=((((1000000000+(yd a).getD i 0) - (yd b).getD i 0) - bo) / 1000000000)) om om];exact wu64 om))<|e_p (zna (z:=(1 - ((((1000000000+(yd a).getD i 0) - (yd b).getD i 0) - bo) / 1000000000))) rfl rfl (wu64 om))<|e_p (zd rfl)<|zi<|zT<|ze<|za<|e_mv rfl<|e_p (zO (z:=(((i+1):Nat):Int)) rfl rfl (w64 om))<|e_p (zd rfl)<|zi<|zla ((i+1),p4,c5,os++[(1000000000+(yd a).getD i 0 - (yd b).getD i 0 - bo)%1000000000],1 - (1000000000+(yd a).getD i 0 - (yd b).getD i 0 - bo) / 1000000000) (show (i+1)≤(yd a).length∧(os++[(1000000000+(yd a).getD i 0 - (yd b).getD i 0 - bo)%1000000000]).length=(i+1)∧0≤(1 - (1000000000+(yd a).getD i 0 - (yd b).getD i 0 - bo) / 1000000000)∧(1 - (1000000000+(yd a).getD i 0 - (yd b).getD i 0 - bo) / 1000000000)≤1∧yy (os++[(1000000000+(yd a).getD i 0 - (yd b).getD i 0 - bo)%1000000000])∧yk (os++[(1000000000+(yd a).getD i 0 - (yd b).getD i 0 - bo)%1000000000])+yk ((yd b).take (i+1))=yk ((yd a).take (i+1))+yM (i+1)*(1 - (1000000000+(yd a).getD i 0 - (yd b).getD i 0 - bo) / 1000000000) from by exact ⟨by omega,by simp [hol],by omega,by omega,yR hok om om,Big.minus_step hol hv om⟩) (by show (yd a).length - (i+1)<(yd a).length - i;omega) ((.e rfl cgs (.e rfl (by simp) (.of rfl))):SubM _ _) (ho:=((.e (i:=1) rfl cgs .n):PickO _ _ _)) ((.of [1,2] rfl):SelR _ _ _)
 ·
  have htr:yA os=yd (a - b):=Big.minus_fin hab hok hc0 hol om hv
  have hfin:(yB false (yk os)).natAbs=a - b:=by rw [Big.sg_abs (yL hok)];have:=congrArg yk htr;rw [Big.valL_trim,yx] at this;omega
  refine zqa<|zk<|zk<|zD<|ze<|zh<|za<|e_mv rfl<|zka 0 rfl .z<|zG rfl rfl (.c rfl (.c rfl .n)) ce112 (zRa (s:=false) (p:=p) (n:=os.length) (cap:=c) (l:=os) (hn:=by first|rfl|omega|(simp;done)|(simp;omega)) (ho:=by exact hok) (hln:=by first|rfl|omega|(simp;done)|(simp;omega))) (.c (j:=0) rfl .n) ?_
  rintro ⟨p26,c27⟩ -
  dsimp only [aq,nq,cq]
  refine e_p (zFa yg rfl ty39 rfl rfl)<|e_p (zd rfl)<|zi<|ze<|zL ?_
  exact zx Tryz.results130 (p26,c27) trivial (zl rfl) (by rw [hfin]) (ho:=oN) ((.e (j:=0) rfl (by rw [hfin]) .n):SelR _ _ _)
theorem zcd {a:Nat} {b:Nat} {p1:Option Addr} {c1:Nat} {p2:Option Addr} {c2:Nat}:Con yl 129 [.slice p1 ((yd a).length) c1,.slice p2 ((yd b).length) c2] [] [slF (rI .u32) p1 c1 (yd a),slF (rI .u32) p2 c2 (yd b)] (Y:=Unit) (fun y=>True) (fun y=> ya yb (Big.cmp (a:Int) (b:Int))) (fun y=>[]) (fun y=>[]):=by
 refine zo Tryz.func129 rfl rfl rfl (fun c=> ?_)
 show RunC _ _ _ _ _ [(0,.slice p1 ((yd a).length) c1),(1,.slice p2 ((yd b).length) c2)] [] [slF (rI .u32) p1 c1 (yd a),slF (rI .u32) p2 c2 (yd b)]
 refine zea 0 rfl (fun hL0=> ?_)
 refine zea 1 rfl (fun hL1=> ?_)
 refine zh<|za<|e_p (zd rfl)<|zi<|ze<|zh<|zh<|za<|e_mv rfl<|e_p (zR ye rfl)<|e_mv rfl<|e_p (zR ye rfl)<|e_p (zXa rfl rfl)<|zi<|ze<|zJ rfl (fun hlen=> ?_) (fun hlen=> ?_)
 ·
  refine zh<|zh<|za<|e_mv rfl<|e_p (zR ye rfl)<|e_mv rfl<|e_p (zR ye rfl)<|e_p (zda rfl rfl)<|zi<|ze<|zJ rfl (fun hll=> ?_) (fun hll=> ?_)
  ·
   refine zh<|za<|e_p (zd rfl)<|zi<|ze<|zL<|zj<|zj ?_
   exact zx yG () trivial (zl rfl) (by rw [← Big.cmp_len om,Big.cmp_lt om]) (ho:=oN) sN
  ·
   refine zC<|ze<|zh<|za<|e_p (zd rfl)<|zi<|ze<|zL<|zj ?_
   exact zx yG () trivial (zl rfl) (by rw [← Big.cmp_len om,Big.cmp_gt om]) (ho:=oN) sN
 ·
  replace hlen:(yd a).length=(yd b).length:=by omega
  refine zC<|ze<|zh<|zh<|za<|e_mv rfl<|e_p (zR ye rfl)<|e_p (zna (z:=((((yd a).length:Nat):Int) - 1)) rfl rfl (w64 om))<|e_p (zd rfl)<|zi<|ze<|zE<|zra (X:=Nat) (fun x:Nat=>x≤(yd a).length∧(yd a).drop x=(yd b).drop x) (fun x=>[(5,ya yb (((x:Nat):Int) - 1)),(0,.slice p1 ((yd a).length) c1),(1,.slice p2 ((yd b).length) c2)]) (fun x=>[]) (fun x=>[slF (rI .u32) p1 c1 (yd a),slF (rI .u32) p2 c2 (yd b)]) (fun x:Nat=>x) ((yd a).length) (show ((yd a).length)≤(yd a).length∧(yd a).drop ((yd a).length)=(yd b).drop ((yd a).length) from by exact ⟨Nat.le_refl _,by rw [List.drop_length,hlen,List.drop_length]⟩) ((.e rfl cgs (.c rfl (.c rfl .n))):SubM _ _) (ho:=oN) ((.of [0,1] rfl):SelR _ _ _) ?_
  rintro j hI
  replace hI:j≤(yd a).length∧(yd a).drop j=(yd b).drop j:=hI
  try dsimp only
  obtain ⟨hj,hd⟩:=hI
  refine zh<|zh<|za<|e_mv rfl<|e_p (zNa rfl rfl)<|zi<|ze<|zJ rfl (fun h1=> ?_) (fun h1=> ?_)
  ·
   obtain ⟨k,rfl⟩:∃k,j=k+1:=⟨j - 1,by omega⟩
   have e2:(((((k+1):Nat):Int) - 1):Int)=((k:Nat):Int):=by omega
   rw [e2]
   refine zC<|ze<|zh<|zE<|zh<|zh<|zY (OW:=[]) (O:=[]) 100000 mixed (.then (.then (.block (.then (.then (.block (.then .ret))))))) kr<|e_dm 0 rfl rfl rfl<|e_dm 1 rfl rfl rfl<|zga (x0:=((yd a).getD k 0)) 2 rfl rfl kr kr 0 k rfl ye sz121 rfl rfl rfl cbs rfl rfl (gD (d:=0) om) (fun b3 o4 hok5=> ?_)
   replace hok5:=zI.1 hok5
   refine e_u 3 rfl rfl (zB (j:=0) 0 ty121 rfl rfl rfl rfl)<|e_dm 4 rfl rfl rfl<|e_dm 5 rfl rfl rfl<|zga (x0:=((yd b).getD k 0)) 6 rfl rfl kr kr 2 k rfl ye sz121 rfl rfl rfl cbs rfl rfl (gD (d:=0) om) (fun b6 o7 hok8=> ?_)
   replace hok8:=zI.1 hok8
   refine e_u 7 rfl rfl (zB (j:=0) 0 ty121 rfl rfl rfl rfl)<|e_pv 8 rfl rfl (zda rfl rfl)<|zW kr<|ze<|zJ rfl (fun hlt=> ?_) (fun hlt=> ?_)
   ·
    refine zh<|za<|e_p (zd rfl)<|zi<|ze<|zL<|zj<|zy<|zj<|zj<|zy<|zj ?_
    exact zx yG () trivial (zl rfl) (by rw [← Big.cmp_at hlen om hd om,Big.cmp_lt om]) (ho:=oN) sN
   ·
    refine zC<|ze<|zh<|zY (OW:=[]) (O:=[]) 100000 mixed (.then (.block (.then (.then (.block (.then .ret)))))) kr<|e_dm 0 rfl rfl rfl<|e_dm 1 rfl rfl rfl<|zga (x0:=((yd a).getD k 0)) 2 rfl rfl kr kr 2 k rfl ye sz121 rfl rfl rfl cbs rfl rfl (gD (d:=0) om) (fun b9 o10 hok11=> ?_)
    replace hok11:=zI.1 hok11
    refine e_u 3 rfl rfl (zB (j:=0) 0 ty121 rfl rfl rfl rfl)<|e_dm 4 rfl rfl rfl<|e_dm 5 rfl rfl rfl<|zga (x0:=((yd b).getD k 0)) 6 rfl rfl kr kr 4 k rfl ye sz121 rfl rfl rfl cbs rfl rfl (gD (d:=0) om) (fun b12 o13 hok14=> ?_)
    replace hok14:=zI.1 hok14
    refine e_u 7 rfl rfl (zB (j:=0) 0 ty121 rfl rfl rfl rfl)<|e_pv 8 rfl rfl (zDa rfl rfl)<|zW kr<|ze<|zJ rfl (fun hgt=> ?_) (fun hgt=> ?_)
    ·
     refine zh<|za<|e_p (zd rfl)<|zi<|ze<|zL<|zy<|zj<|zj<|zy<|zj ?_
     exact zx yG () trivial (zl rfl) (by rw [← Big.cmp_at hlen om hd om,Big.cmp_gt om]) (ho:=oN) sN
    ·
     refine zC<|zT<|ze<|za<|e_mv rfl<|e_p (zna (z:=(((k:Nat):Int) - 1)) rfl rfl (w64 om))<|e_p (zd rfl)<|zi<|zla k (show k≤(yd a).length∧(yd a).drop k=(yd b).drop k from by exact ⟨by omega,Big.drop_more om om hd om⟩) (by show k<k+1;omega) (mR rfl) (ho:=oN) ((.of [4,5] rfl):SelR _ _ _)
  ·
   refine zqa<|zk<|zk<|zD<|ze<|zh<|za<|e_p (zd rfl)<|zi<|ze<|zL ?_
   have hj0:j=0:=by omega
   subst hj0
   have heq:=Big.cmp_eq (show yd a=yd b by simpa using hd)
   exact zx yG () trivial (zl rfl) (by rw [heq] <;> simp [Big.cmp]) (ho:=oN) sN
theorem zLe {s:Bool} {p:Option Addr} {n:Nat} {cap:Nat} {l:List Int} (hn:l.length=n) (hln:n≤4398046511104):Con yl 106 [.agg #[.bool s,.slice p n cap]] [] [slF (rI .u32) p cap l] (Y:=(Option Addr)×Nat) (fun y=>True) (fun y=> .agg #[.bool (decide ((- yf s l)<0)),.slice (y.1) ((yd ((- yf s l).natAbs)).length) (y.2)]) (fun y=>[]) (fun y=>[slF (rI .u32) (y.1) (y.2) (yd ((- yf s l).natAbs))]):=by
 refine zo Tryz.func106 rfl rfl rfl (fun c=> ?_)
 show RunC _ _ _ _ _ [(0,.agg #[.bool s,.slice p n cap])] [] [slF (rI .u32) p cap l]
 refine zea 0 rfl (fun hL0=> ?_)
 refine zZa 0 rfl (fun hE0=> ?_)
 have hnn:yH l:=fun g hg=>(zI.1 (hE0 g hg)).1
 have hb:yo (yf s l)≤n:=by have:=yJ (s:=s) hnn;omega
 unfold yo at hb
 refine zh<|za<|zP rfl rfl (zS rfl rfl) (fun b1=> ?_)
 refine zP rfl rfl (zn zr41 rfl) (fun b2=> ?_)
 refine zi<|ze<|zh<|za<|e_ru (zb 1 ty41 rfl rfl (.t2 .nil))<|zG rfl rfl (.c rfl .n) ce111 (zVa (s:=s) (p:=p) (n:=n) (cap:=cap) (l:=l) (hn:=ass) (hln:=ass)) (.c (j:=0) rfl .n) ?_
 rintro ⟨p23,c24⟩ -
 dsimp only [aq,nq,cq]
 refine zm 1 rfl rfl rfl rfl rfl sz41 rfl (.t2 .nil) (.s .z)<|zi<|ze<|zh<|za<|e_p (zf yg rfl sz4 rfl rfl)<|e_ru (zg 1 ty4 rfl rfl rfl)<|e_p (zOb rfl)<|e_p (zf yg rfl sz39 rfl rfl)<|e_ru (zg 1 ty39 rfl rfl rfl)<|zG rfl rfl (.c rfl (.c rfl .n)) ce112 (zrb (s:= !(decide ((yf s l)<0))) (a:=(yf s l).natAbs) (p:=p23) (cap:=c24) (hln:=cbb)) (.c (j:=0) rfl .n) ?_
 rintro ⟨p25,c26⟩ -
 dsimp only [aq,nq,cq]
 refine zm 0 rfl rfl rfl rfl rfl sz41 rfl (.t2 .nil) .z<|zi<|ze<|zL ?_
 have hz:yB (!decide (yf s l<0)) ((yf s l).natAbs:Int)= - yf s l:=by rw [Big.sg_not,Big.sg_big]
 exact zx Tryz.results106 (p25,c26) trivial (zv 0 ty41 rfl rfl (.t2 .nil)) (by rw [hz]) (ho:=oN) ((.e (j:=0) rfl (by rw [hz]) .n):SelR _ _ _)
theorem zHf {z:Int} {p:Option Addr} {cap:Nat} (hln:yo z≤4398046511104):Con yl 106 [.agg #[.bool (decide ((z)<0)),.slice (p) ((yd ((z).natAbs)).length) (cap)]] [] [slF (rI .u32) (p) (cap) (yd ((z).natAbs))] (Y:=(Option Addr)×(Nat)) (fun y=>True) (fun y=> .agg #[.bool (decide ((- z)<0)),.slice (y.1) ((yd ((- z).natAbs)).length) (y.2)]) (fun y=>[]) (fun y=>[slF (rI .u32) (y.1) (y.2) (yd ((- z).natAbs))]):=by
  have h:= @zLe (decide ((z)<0)) p (yd (z).natAbs).length cap (yd (z).natAbs) rfl hln
  rw [yu] at h
  exact h
theorem zQd {w1:Wd} {x1:Int} (hln:yo x1≤4398046511104):Con yl 106 [.agg #[w1.b,w1.l]] [] [zF w1 (x1)] (Y:=(Wd)) (fun y=>True) (fun y=> .agg #[y.b,y.l]) (fun y=>[]) (fun y=>[zF y (- x1)]):=by
  exact zZb (zFe (fun p c=>zHf hln))
theorem zRd {s:Bool} {p:Option Addr} {n:Nat} {cap:Nat} {l:List Int} (hn:l.length=n) (hln:n≤4398046511104):Con yl 105 [.agg #[.bool s,.slice p n cap]] [] [slF (rI .u32) p cap l] (Y:=Unit) (fun y=>True) (fun y=> ya yb ((yf s l).sign)) (fun y=>[]) (fun y=>[]):=by
 refine zo Tryz.func105 rfl rfl rfl (fun c=> ?_)
 show RunC _ _ _ _ _ [(0,.agg #[.bool s,.slice p n cap])] [] [slF (rI .u32) p cap l]
 refine zea 0 rfl (fun hL0=> ?_)
 refine zZa 0 rfl (fun hE0=> ?_)
 have hnn:yH l:=fun g hg=>(zI.1 (hE0 g hg)).1
 refine zh<|za<|zP rfl rfl (zS rfl rfl) (fun b1=> ?_)
 refine e_p (zd rfl)<|zi<|ze<|zh<|za<|e_ru (zb 0 ty41 rfl rfl (.t2 .nil))<|zG rfl rfl (.c rfl .n) ce111 (zVa (s:=s) (p:=p) (n:=n) (cap:=cap) (l:=l) (hn:=ass) (hln:=ass)) (.c (j:=0) rfl .n) ?_
 rintro ⟨p22,c23⟩ -
 dsimp only [aq,nq,cq]
 refine zm 0 rfl rfl rfl rfl rfl sz41 rfl (.t2 .nil) .z<|zi<|ze<|zh<|zh<|za<|e_p (zf yg rfl sz39 rfl rfl)<|e_ru (zg 0 ty39 rfl rfl rfl)<|e_p (zR ye rfl)<|e_p (zxa rfl rfl)<|zi<|ze<|zJ rfl (fun h0=> ?_) (fun h0=> ?_)
 ·
  refine zh<|za<|e_p (zd rfl)<|zi<|ze<|zL<|zj ?_
  exact zx Tryz.results105 () trivial (zl rfl) (by rw [show yf s l=0 by have:=yI.1 (show (yd (yf s l).natAbs).length=0 by omega);omega];rfl) (ho:=oN) sN
 ·
  refine zC<|ze<|zh<|zh<|za<|e_p (zf yg rfl sz4 rfl rfl)<|e_ru (zg 0 ty4 rfl rfl rfl)<|zi<|ze<|zxb rfl (fun hs=> ?_) (fun hs=> ?_)
  ·
   refine zh<|za<|e_p (zd rfl)<|zi<|ze<|zL<|zj ?_
   exact zx Tryz.results105 () trivial (zl rfl) (by rw [Int.sign_eq_neg_one_of_neg (by simpa using hs)]) (ho:=oN) sN
  ·
   refine zC<|ze<|zh<|za<|e_p (zd rfl)<|zi<|ze<|zL ?_
   exact zx Tryz.results105 () trivial (zl rfl) (by rw [Int.sign_eq_one_of_pos (by have h2:¬yf s l<0:=(by simpa using hs);have:(yf s l).natAbs≠0:=(fun e=>h0 (by rw [e];rfl));omega)]) (ho:=oN) sN
theorem zld {z:Int} {p:Option Addr} {cap:Nat} (hln:yo z≤4398046511104):Con yl 105 [.agg #[.bool (decide ((z)<0)),.slice (p) ((yd ((z).natAbs)).length) (cap)]] [] [slF (rI .u32) (p) (cap) (yd ((z).natAbs))] (Y:=Unit) (fun y=>True) (fun y=> ya yb ((z).sign)) (fun y=>[]) (fun y=>[]):=by
  have h:= @zRd (decide ((z)<0)) p (yd (z).natAbs).length cap (yd (z).natAbs) rfl hln
  rw [yu] at h
  exact h
theorem zyc {w1:Wd} {x1:Int} (hln:yo x1≤4398046511104):Con yl 105 [.agg #[w1.b,w1.l]] [] [zF w1 (x1)] (Y:=Unit) (fun y=>True) (fun y=> ya yb ((x1).sign)) (fun y=>[]) (fun y=>[]):=by
  exact zFe (fun p c=>zld hln)
theorem zMe {s:Bool} {p1:Option Addr} {n1:Nat} {c1:Nat} {l1:List Int} {t:Bool} {p2:Option Addr} {n2:Nat} {c2:Nat} {l2:List Int} (hn1:l1.length=n1) (hn2:l2.length=n2) (hm1:n1≤4398046511104) (hm2:n2≤4398046511104):Con yl 108 [.agg #[.bool s,.slice p1 n1 c1],.agg #[.bool t,.slice p2 n2 c2]] [] [slF (rI .u32) p1 c1 l1,slF (rI .u32) p2 c2 l2] (Y:=(Option Addr)×Nat) (fun y=>True) (fun y=> .agg #[.bool (decide ((yf s l1+yf t l2)<0)),.slice (y.1) ((yd ((yf s l1+yf t l2).natAbs)).length) (y.2)]) (fun y=>[]) (fun y=>[slF (rI .u32) (y.1) (y.2) (yd ((yf s l1+yf t l2).natAbs))]):=by
 refine zo Tryz.func108 rfl rfl rfl (fun c=> ?_)
 show RunC _ _ _ _ _ [(0,.agg #[.bool s,.slice p1 n1 c1]),(1,.agg #[.bool t,.slice p2 n2 c2])] [] [slF (rI .u32) p1 c1 l1,slF (rI .u32) p2 c2 l2]
 refine zea 0 rfl (fun hL0=> ?_)
 refine zZa 0 rfl (fun hE0=> ?_)
 refine zea 1 rfl (fun hL1=> ?_)
 refine zZa 1 rfl (fun hE1=> ?_)
 have hnn1:yH l1:=fun g hg=>(zI.1 (hE0 g hg)).1
 have hnn2:yH l2:=fun g hg=>(zI.1 (hE1 g hg)).1
 have hb1:yo (yf s l1)≤n1:=by have:=yJ (s:=s) hnn1;omega
 have hb2:yo (yf t l2)≤n2:=by have:=yJ (s:=t) hnn2;omega
 unfold yo at hb1 hb2
 refine zh<|za<|zP rfl rfl (zS rfl rfl) (fun b1=> ?_)
 refine zP rfl rfl (zS rfl rfl) (fun b2=> ?_)
 refine zP rfl rfl (zn zr41 rfl) (fun b3=> ?_)
 refine zi<|ze<|zh<|zwa (.c (i:=2) rfl (.c (i:=1) rfl (.c (i:=0) rfl .n)))<|zY (OW:=[boxA b1 41 [.bool s,.slice p1 n1 c1],boxA b2 41 [.bool t,.slice p2 n2 c2]]) (O:=[boxA b3 41 [wz.b,wz.l]]) 4 mixed (.then .ret) kr<|e_uw 0 rfl rfl (zb 0 ty41 rfl rfl (.t2 .nil))<|e_uw 2 rfl rfl (zb 1 ty41 rfl rfl (.t2 .nil))<|e_one 1 (zq rfl rfl rfl rfl (.c rfl .n) ce111 (zVa (s:=s) (p:=p1) (n:=n1) (cap:=c1) (l:=l1) (hn:=ass) (hln:=ass)) (.c (j:=0) rfl .n) ?_)
 rintro ⟨p24,c25⟩ -
 dsimp only [aq,nq,cq]
 refine e_one 3 (zq rfl rfl rfl rfl (.c rfl .n) ce111 (zVa (s:=t) (p:=p2) (n:=n2) (cap:=c2) (l:=l2) (hn:=ass) (hln:=ass)) (.c (j:=2) rfl .n) ?_)
 rintro ⟨p26,c27⟩ -
 dsimp only [aq,nq,cq]
 refine e_one 4 (zr kr rfl rfl rfl rfl rfl sz41 rfl (.t2 .nil) ?_)
 refine zeb (zfa (i:=1) rfl)<|e_one 5 (zr kr rfl rfl rfl rfl rfl sz41 rfl (.t2 .nil) ?_)
 refine zW kr<|ze<|zh<|zh<|za<|e_p (zf yg rfl sz4 rfl rfl)<|e_ru (zg 1 ty4 rfl rfl rfl)<|e_p (zf yg rfl sz4 rfl rfl)<|e_ru (zg 0 ty4 rfl rfl rfl)<|e_p (zOc yz rfl rfl)<|zi<|ze<|zJ rfl (fun hst=> ?_) (fun hst=> ?_)
 ·
  refine zh<|zwa (.c (i:=2) rfl (.c (i:=0) rfl (.c (i:=0) rfl .n)))<|zY (OW:=[boxA b3 41 [wz.b,wz.l]]) (O:=[boxA b2 41 [.bool (decide ((yf t l2)<0)),.slice p26 ((yd ((yf t l2).natAbs)).length) c27],boxA b1 41 [.bool (decide ((yf s l1)<0)),.slice p24 ((yd ((yf s l1).natAbs)).length) c25]]) 8 mixed (.then (.then .ret)) kr<|e_pv 0 rfl rfl (zf yg rfl sz4 rfl rfl)<|e_uw 1 rfl rfl (zg 2 ty4 rfl rfl rfl)<|e_pv 2 rfl rfl (zf yg rfl sz39 rfl rfl)<|e_uw 3 rfl rfl (zg 2 ty39 rfl rfl rfl)<|e_pv 4 rfl rfl (zf yg rfl sz39 rfl rfl)<|e_uw 5 rfl rfl (zg 1 ty39 rfl rfl rfl)<|e_one 6 (zq rfl rfl rfl rfl (.c rfl (.c rfl .n)) ce128 (zGf (a:=(yf s l1).natAbs) (b:=(yf t l2).natAbs) (p1:=p24) (c1:=c25) (p2:=p26) (c2:=c27) (hb1:=by first|rfl|assumption|omega|(unfold yo;omega)|(simp;done)|(simp;omega)|(simp_all;done)) (hb2:=by first|rfl|assumption|omega|(unfold yo;omega)|(simp;done)|(simp;omega)|(simp_all;done))) (.c (j:=1) rfl (.c (j:=0) rfl .n)) ?_)
  rintro ⟨p38,c39⟩ -
  dsimp only [aq,nq,cq]
  refine e_one 7 (zq rfl rfl rfl rfl (.c rfl (.c rfl .n)) ce112 (zrb (s:=decide ((yf s l1)<0)) (a:=((yf s l1).natAbs)+((yf t l2).natAbs)) (p:=p38) (cap:=c39) (hln:=by have:=Big.len_add (yf s l1).natAbs (yf t l2).natAbs;omega)) (.c (j:=0) rfl .n) ?_)
  rintro ⟨p210,c211⟩ -
  dsimp only [aq,nq,cq]
  refine e_one 8 (zr kr rfl rfl rfl rfl rfl sz41 rfl (.t2 .nil) ?_)
  refine zW kr<|ze<|zL<|zj ?_
  have hz:=Big.add_same hst
  exact zx Tryz.results108 (p210,c211) trivial (zv 0 ty41 rfl rfl (.t2 .nil)) (by rw [hz]) (ho:=oN) ((.e (j:=0) rfl (by rw [hz]) .n):SelR _ _ _)
 ·
  refine zC<|ze<|zh<|zh<|za<|e_p (zf yg rfl sz39 rfl rfl)<|e_ru (zg 1 ty39 rfl rfl rfl)<|e_p (zf yg rfl sz39 rfl rfl)<|e_ru (zg 0 ty39 rfl rfl rfl)<|zQ rfl rfl (.c rfl (.c rfl .n)) ce129 (zcd (a:=(yf s l1).natAbs) (b:=(yf t l2).natAbs) (p1:=p24) (c1:=c25) (p2:=p26) (c2:=c27)) (.c (j:=1) rfl (.c (j:=0) rfl .n))<|e_p (zNa rfl rfl)<|zi<|ze<|zJ rfl (fun hcmp=> ?_) (fun hcmp=> ?_)
  ·
   have hab:(yf t l2).natAbs≤(yf s l1).natAbs:=by have:=Big.cmp_ge.1 hcmp;omega
   refine zh<|zwa (.c (i:=2) rfl (.c (i:=0) rfl (.c (i:=0) rfl .n)))<|zY (OW:=[boxA b3 41 [wz.b,wz.l]]) (O:=[boxA b2 41 [.bool (decide ((yf t l2)<0)),.slice p26 ((yd ((yf t l2).natAbs)).length) c27],boxA b1 41 [.bool (decide ((yf s l1)<0)),.slice p24 ((yd ((yf s l1).natAbs)).length) c25]]) 8 mixed (.then (.then .ret)) kr<|e_pv 0 rfl rfl (zf yg rfl sz4 rfl rfl)<|e_uw 1 rfl rfl (zg 2 ty4 rfl rfl rfl)<|e_pv 2 rfl rfl (zf yg rfl sz39 rfl rfl)<|e_uw 3 rfl rfl (zg 2 ty39 rfl rfl rfl)<|e_pv 4 rfl rfl (zf yg rfl sz39 rfl rfl)<|e_uw 5 rfl rfl (zg 1 ty39 rfl rfl rfl)<|e_one 6 (zq rfl rfl rfl rfl (.c rfl (.c rfl .n)) ce130 (zXb (a:=(yf s l1).natAbs) (b:=(yf t l2).natAbs) (p1:=p24) (c1:=c25) (p2:=p26) (c2:=c27) (hb1:=by first|rfl|assumption|omega|(unfold yo;omega)|(simp;done)|(simp;omega)|(simp_all;done)) (hb2:=by first|rfl|assumption|omega|(unfold yo;omega)|(simp;done)|(simp;omega)|(simp_all;done)) (hab:=by first|rfl|assumption|omega|(unfold yo;omega)|(simp;done)|(simp;omega)|(simp_all;done))) (.c (j:=1) rfl (.c (j:=0) rfl .n)) ?_)
   rintro ⟨p312,c313⟩ -
   dsimp only [aq,nq,cq]
   refine e_one 7 (zq rfl rfl rfl rfl (.c rfl (.c rfl .n)) ce112 (zrb (s:=decide ((yf s l1)<0)) (a:=((yf s l1).natAbs) - ((yf t l2).natAbs)) (p:=p312) (cap:=c313) (hln:=by have:=Big.len_sub (yf s l1).natAbs (yf t l2).natAbs;omega)) (.c (j:=0) rfl .n) ?_)
   rintro ⟨p214,c215⟩ -
   dsimp only [aq,nq,cq]
   refine e_one 8 (zr kr rfl rfl rfl rfl rfl sz41 rfl (.t2 .nil) ?_)
   refine zW kr<|ze<|zL<|zj ?_
   have hz:=Big.add_ge hst hab
   exact zx Tryz.results108 (p214,c215) trivial (zv 0 ty41 rfl rfl (.t2 .nil)) (by rw [hz]) (ho:=oN) ((.e (j:=0) rfl (by rw [hz]) .n):SelR _ _ _)
  ·
   have hab:(yf s l1).natAbs≤(yf t l2).natAbs:=by have:¬((yf t l2).natAbs:Int)≤(yf s l1).natAbs:=fun h=>hcmp (Big.cmp_ge.2 h);omega
   refine zC<|ze<|zh<|zwa (.c (i:=2) rfl (.c (i:=0) rfl (.c (i:=0) rfl .n)))<|zY (OW:=[boxA b3 41 [wz.b,wz.l]]) (O:=[boxA b2 41 [.bool (decide ((yf t l2)<0)),.slice p26 ((yd ((yf t l2).natAbs)).length) c27],boxA b1 41 [.bool (decide ((yf s l1)<0)),.slice p24 ((yd ((yf s l1).natAbs)).length) c25]]) 8 mixed (.then .ret) kr<|e_pv 0 rfl rfl (zf yg rfl sz4 rfl rfl)<|e_uw 1 rfl rfl (zg 1 ty4 rfl rfl rfl)<|e_pv 2 rfl rfl (zf yg rfl sz39 rfl rfl)<|e_uw 3 rfl rfl (zg 1 ty39 rfl rfl rfl)<|e_pv 4 rfl rfl (zf yg rfl sz39 rfl rfl)<|e_uw 5 rfl rfl (zg 2 ty39 rfl rfl rfl)<|e_one 6 (zq rfl rfl rfl rfl (.c rfl (.c rfl .n)) ce130 (zXb (a:=(yf t l2).natAbs) (b:=(yf s l1).natAbs) (p1:=p26) (c1:=c27) (p2:=p24) (c2:=c25) (hb1:=by first|rfl|assumption|omega|(unfold yo;omega)|(simp;done)|(simp;omega)|(simp_all;done)) (hb2:=by first|rfl|assumption|omega|(unfold yo;omega)|(simp;done)|(simp;omega)|(simp_all;done)) (hab:=by first|rfl|assumption|omega|(unfold yo;omega)|(simp;done)|(simp;omega)|(simp_all;done))) (.c (j:=0) rfl (.c (j:=1) rfl .n)) ?_)
   rintro ⟨p316,c317⟩ -
   dsimp only [aq,nq,cq]
   refine e_one 7 (zq rfl rfl rfl rfl (.c rfl (.c rfl .n)) ce112 (zrb (s:=decide ((yf t l2)<0)) (a:=((yf t l2).natAbs) - ((yf s l1).natAbs)) (p:=p316) (cap:=c317) (hln:=by have:=Big.len_sub (yf t l2).natAbs (yf s l1).natAbs;omega)) (.c (j:=0) rfl .n) ?_)
   rintro ⟨p218,c219⟩ -
   dsimp only [aq,nq,cq]
   refine e_one 8 (zr kr rfl rfl rfl rfl rfl sz41 rfl (.t2 .nil) ?_)
   refine zW kr<|ze<|zL ?_
   have hz:=Big.add_lt hst hab
   exact zx Tryz.results108 (p218,c219) trivial (zv 0 ty41 rfl rfl (.t2 .nil)) (by rw [hz]) (ho:=oN) ((.e (j:=0) rfl (by rw [hz]) .n):SelR _ _ _)
theorem zIf {x1:Int} {x2:Int} {p1:Option Addr} {c1:Nat} {p2:Option Addr} {c2:Nat} (hb1:yo x1≤4398046511104) (hb2:yo x2≤4398046511104):Con yl 108 [.agg #[.bool (decide ((x1)<0)),.slice (p1) ((yd ((x1).natAbs)).length) (c1)],.agg #[.bool (decide ((x2)<0)),.slice (p2) ((yd ((x2).natAbs)).length) (c2)]] [] [slF (rI .u32) (p1) (c1) (yd ((x1).natAbs)),slF (rI .u32) (p2) (c2) (yd ((x2).natAbs))] (Y:=(Option Addr)×(Nat)) (fun y=>True) (fun y=> .agg #[.bool (decide ((x1+x2)<0)),.slice (y.1) ((yd ((x1+x2).natAbs)).length) (y.2)]) (fun y=>[]) (fun y=>[slF (rI .u32) (y.1) (y.2) (yd ((x1+x2).natAbs))]):=by
  have h:= @zMe (decide ((x1)<0)) p1 (yd (x1).natAbs).length c1 (yd (x1).natAbs) (decide ((x2)<0)) p2 (yd (x2).natAbs).length c2 (yd (x2).natAbs) rfl rfl hb1 hb2
  rw [yu,yu] at h
  exact h
theorem zJf {w1:Wd} {w2:Wd} {x1:Int} {x2:Int} (hb1:yo x1≤4398046511104) (hb2:yo x2≤4398046511104):Con yl 108 [.agg #[w1.b,w1.l],.agg #[w2.b,w2.l]] [] [zF w1 (x1),zF w2 (x2)] (Y:=(Wd)) (fun y=>True) (fun y=> .agg #[y.b,y.l]) (fun y=>[]) (fun y=>[zF y (x1+x2)]):=by
  exact zZb (zHc (fun p1 c1 p2 c2=>zIf hb1 hb2))
theorem zNe {s:Bool} {p1:Option Addr} {n1:Nat} {c1:Nat} {l1:List Int} {t:Bool} {p2:Option Addr} {n2:Nat} {c2:Nat} {l2:List Int} (hn1:l1.length=n1) (hn2:l2.length=n2) (hm1:n1≤4398046511104) (hm2:n2≤4398046511104):Con yl 133 [.agg #[.bool s,.slice p1 n1 c1],.agg #[.bool t,.slice p2 n2 c2]] [] [slF (rI .u32) p1 c1 l1,slF (rI .u32) p2 c2 l2] (Y:=(Option Addr)×Nat) (fun y=>True) (fun y=> .agg #[.bool (decide ((yf s l1 - yf t l2)<0)),.slice (y.1) ((yd ((yf s l1 - yf t l2).natAbs)).length) (y.2)]) (fun y=>[]) (fun y=>[slF (rI .u32) (y.1) (y.2) (yd ((yf s l1 - yf t l2).natAbs))]):=by
 refine zo Tryz.func133 rfl rfl rfl (fun c=> ?_)
 show RunC _ _ _ _ _ [(0,.agg #[.bool s,.slice p1 n1 c1]),(1,.agg #[.bool t,.slice p2 n2 c2])] [] [slF (rI .u32) p1 c1 l1,slF (rI .u32) p2 c2 l2]
 refine zea 0 rfl (fun hL0=> ?_)
 refine zZa 0 rfl (fun hE0=> ?_)
 refine zea 1 rfl (fun hL1=> ?_)
 refine zZa 1 rfl (fun hE1=> ?_)
 have hnn1:yH l1:=fun g hg=>(zI.1 (hE0 g hg)).1
 have hnn2:yH l2:=fun g hg=>(zI.1 (hE1 g hg)).1
 have hb1:yo (yf s l1)≤n1:=by have:=yJ (s:=s) hnn1;omega
 have hb2:yo (yf t l2)≤n2:=by have:=yJ (s:=t) hnn2;omega
 unfold yo at hb1 hb2
 refine zh<|za<|zP rfl rfl (zS rfl rfl) (fun b1=> ?_)
 refine zP rfl rfl (zS rfl rfl) (fun b2=> ?_)
 refine zP rfl rfl (zn zr41 rfl) (fun b3=> ?_)
 refine zi<|ze<|zh<|zY (OW:=[boxA b3 41 [wz.b,wz.l]]) (O:=[boxA b2 41 [.bool t,.slice p2 n2 c2],boxA b1 41 [.bool s,.slice p1 n1 c1]]) 4 mixed (.then .ret) kr<|e_uw 0 rfl rfl (zb 2 ty41 rfl rfl (.t2 .nil))<|e_uw 1 rfl rfl (zb 1 ty41 rfl rfl (.t2 .nil))<|e_one 2 (zq rfl rfl rfl rfl (.c rfl .n) ce106 (zLe (s:=t) (p:=p2) (n:=n2) (cap:=c2) (l:=l2) (hn:=ass) (hln:=ass)) (.c (j:=1) rfl .n) ?_)
 rintro ⟨p24,c25⟩ -
 dsimp only [aq,nq,cq]
 refine e_one 3 (zq rfl rfl rfl rfl (.c rfl (.c rfl .n)) ce108 (zMe (s:=s) (p1:=p1) (n1:=n1) (c1:=c1) (l1:=l1) (t:=decide ((- yf t l2)<0)) (p2:=p24) (n2:=(yd ((- yf t l2).natAbs)).length) (c2:=c25) (l2:=yd ((- yf t l2).natAbs)) (hn1:=ass) (hn2:=by first|rfl|assumption|omega|(rw [Int.natAbs_neg];omega)) (hm1:=ass) (hm2:=by first|rfl|assumption|omega|(rw [Int.natAbs_neg];omega))) (.c (j:=1) rfl (.c (j:=0) rfl .n)) ?_)
 rintro ⟨p36,c37⟩ -
 dsimp only [aq,nq,cq]
 refine e_one 4 (zr kr rfl rfl rfl rfl rfl sz41 rfl (.t2 .nil) ?_)
 refine zW kr<|ze<|zL ?_
 have hz:yf s l1+yf (decide ((- yf t l2)<0)) (yd (- yf t l2).natAbs)=yf s l1 - yf t l2:=by rw [yu];omega
 exact zx Tryz.results133 (p36,c37) trivial (zv 0 ty41 rfl rfl (.t2 .nil)) (by rw [hz]) (ho:=oN) ((.e (j:=0) rfl (by rw [hz]) .n):SelR _ _ _)
theorem zqc {x1:Int} {x2:Int} {p1:Option Addr} {c1:Nat} {p2:Option Addr} {c2:Nat} (hb1:yo x1≤4398046511104) (hb2:yo x2≤4398046511104):Con yl 133 [.agg #[.bool (decide ((x1)<0)),.slice (p1) ((yd ((x1).natAbs)).length) (c1)],.agg #[.bool (decide ((x2)<0)),.slice (p2) ((yd ((x2).natAbs)).length) (c2)]] [] [slF (rI .u32) (p1) (c1) (yd ((x1).natAbs)),slF (rI .u32) (p2) (c2) (yd ((x2).natAbs))] (Y:=(Option Addr)×(Nat)) (fun y=>True) (fun y=> .agg #[.bool (decide ((x1 - x2)<0)),.slice (y.1) ((yd ((x1 - x2).natAbs)).length) (y.2)]) (fun y=>[]) (fun y=>[slF (rI .u32) (y.1) (y.2) (yd ((x1 - x2).natAbs))]):=by
  have h:= @zNe (decide ((x1)<0)) p1 (yd (x1).natAbs).length c1 (yd (x1).natAbs) (decide ((x2)<0)) p2 (yd (x2).natAbs).length c2 (yd (x2).natAbs) rfl rfl hb1 hb2
  rw [yu,yu] at h
  exact h
theorem zeg {s:Bool} {p1:Option Addr} {n1:Nat} {c1:Nat} {l1:List Int} {t:Bool} {p2:Option Addr} {n2:Nat} {c2:Nat} {l2:List Int} (hn1:l1.length=n1) (hn2:l2.length=n2) (hm1:n1≤4398046511104) (hm2:n2≤4398046511104):Con yl 73 [.agg #[.bool s,.slice p1 n1 c1],.agg #[.bool t,.slice p2 n2 c2]] [] [slF (rI .u32) p1 c1 l1,slF (rI .u32) p2 c2 l2] (Y:=(Option Addr)×Nat) (fun y=>True) (fun y=> .agg #[.bool (decide ((yf s l1*yf t l2)<0)),.slice (y.1) ((yd ((yf s l1*yf t l2).natAbs)).length) (y.2)]) (fun y=>[]) (fun y=>[slF (rI .u32) (y.1) (y.2) (yd ((yf s l1*yf t l2).natAbs))]):=by
 refine zo Tryz.func73 rfl rfl rfl (fun c=> ?_)
 show RunC _ _ _ _ _ [(0,.agg #[.bool s,.slice p1 n1 c1]),(1,.agg #[.bool t,.slice p2 n2 c2])] [] [slF (rI .u32) p1 c1 l1,slF (rI .u32) p2 c2 l2]
 refine zea 0 rfl (fun hL0=> ?_)
 refine zZa 0 rfl (fun hE0=> ?_)
 refine zea 1 rfl (fun hL1=> ?_)
 refine zZa 1 rfl (fun hE1=> ?_)
 have hnn1:yH l1:=fun g hg=>(zI.1 (hE0 g hg)).1
 have hnn2:yH l2:=fun g hg=>(zI.1 (hE1 g hg)).1
 have hb1:yo (yf s l1)≤n1:=by have:=yJ (s:=s) hnn1;omega
 have hb2:yo (yf t l2)≤n2:=by have:=yJ (s:=t) hnn2;omega
 unfold yo at hb1 hb2
 have hoa:=yp (yf s l1).natAbs
 have hob:=yp (yf t l2).natAbs
 refine zh<|za<|zP rfl rfl (zS rfl rfl) (fun b1=> ?_)
 refine zP rfl rfl (zS rfl rfl) (fun b2=> ?_)
 refine zP rfl rfl (zn zr41 rfl) (fun b3=> ?_)
 refine zi<|ze<|zh<|zwa (.c (i:=2) rfl (.c (i:=1) rfl (.c (i:=0) rfl .n)))<|zY (OW:=[boxA b1 41 [.bool s,.slice p1 n1 c1],boxA b2 41 [.bool t,.slice p2 n2 c2]]) (O:=[boxA b3 41 [wz.b,wz.l]]) 4 mixed (.then .ret) kr<|e_uw 0 rfl rfl (zb 0 ty41 rfl rfl (.t2 .nil))<|e_uw 2 rfl rfl (zb 1 ty41 rfl rfl (.t2 .nil))<|e_one 1 (zq rfl rfl rfl rfl (.c rfl .n) ce111 (zVa (s:=s) (p:=p1) (n:=n1) (cap:=c1) (l:=l1) (hn:=ass) (hln:=ass)) (.c (j:=0) rfl .n) ?_)
 rintro ⟨p24,c25⟩ -
 dsimp only [aq,nq,cq]
 refine e_one 3 (zq rfl rfl rfl rfl (.c rfl .n) ce111 (zVa (s:=t) (p:=p2) (n:=n2) (cap:=c2) (l:=l2) (hn:=ass) (hln:=ass)) (.c (j:=2) rfl .n) ?_)
 rintro ⟨p26,c27⟩ -
 dsimp only [aq,nq,cq]
 refine e_one 4 (zr kr rfl rfl rfl rfl rfl sz41 rfl (.t2 .nil) ?_)
 refine zeb (zfa (i:=1) rfl)<|e_one 5 (zr kr rfl rfl rfl rfl rfl sz41 rfl (.t2 .nil) ?_)
 refine zW kr<|ze<|zh<|za<|e_p (zf yg rfl sz39 rfl rfl)<|e_ru (zg 1 ty39 rfl rfl rfl)<|e_p (zR ye rfl)<|e_p (zf yg rfl sz39 rfl rfl)<|e_ru (zg 0 ty39 rfl rfl rfl)<|e_p (zR ye rfl)<|e_p (zO (z:=(((((yd ((yf s l1).natAbs)).length)+((yd ((yf t l2).natAbs)).length)):Nat):Int)) rfl rfl (w64 om))<|zKa rfl rfl (zyb (r:=rI .u32) (k:=(((yd ((yf s l1).natAbs)).length)+((yd ((yf t l2).natAbs)).length))) (x0:=0) (γ0:=()) ye inf121 rfl rfl rfl rfl om om rfl (fun g _=>by exact zI.2 dd) dd) (fun b8 _=> ?_)
 refine e_p (zd rfl)<|zi<|ze<|zh<|zh<|za<|e_p (zd rfl)<|zi<|ze<|zE<|zra (X:=Nat×(List Int)) (fun x:Nat×(List Int)=>x.1≤(yd (yf s l1).natAbs).length∧x.2.length=(yd (yf s l1).natAbs).length+(yd (yf t l2).natAbs).length∧yy x.2∧(∀k,x.1+(yd (yf t l2).natAbs).length≤k→x.2.getD k 0=0)∧yk x.2=yk ((yd (yf s l1).natAbs).take x.1)*yk (yd (yf t l2).natAbs)) (fun x=>[(6,ya yb ((x.1:Nat):Int)),(5,.slice (some ⟨b8,0,none⟩) (((yd ((yf s l1).natAbs)).length)+((yd ((yf t l2).natAbs)).length)) (((yd ((yf s l1).natAbs)).length)+((yd ((yf t l2).natAbs)).length))),(4,yc (some ⟨b3,0,none⟩)),(3,yc (some ⟨b2,0,none⟩)),(2,yc (some ⟨b1,0,none⟩))]) (fun x=>[rowA 121 (rI .u32) (some ⟨b8,0,none⟩) (((yd ((yf s l1).natAbs)).length)+((yd ((yf t l2).natAbs)).length)) (x.2),boxA b2 41 [.bool (decide ((yf t l2)<0)),.slice p26 ((yd ((yf t l2).natAbs)).length) c27],boxA b1 41 [.bool (decide ((yf s l1)<0)),.slice p24 ((yd ((yf s l1).natAbs)).length) c25],boxA b3 41 [wz.b,wz.l]]) (fun x=>[slF (rI .u32) p26 c27 (yd ((yf t l2).natAbs)),slF (rI .u32) p24 c25 (yd ((yf s l1).natAbs)),slF (rI .u32) p1 c1 l1,slF (rI .u32) p2 c2 l2]) (fun x:Nat×(List Int)=>(yd (yf s l1).natAbs).length - x.1) (0,List.replicate ((yd (yf s l1).natAbs).length+(yd (yf t l2).natAbs).length) 0) (show 0≤(yd (yf s l1).natAbs).length∧(List.replicate ((yd (yf s l1).natAbs).length+(yd (yf t l2).natAbs).length) 0).length=(yd (yf s l1).natAbs).length+(yd (yf t l2).natAbs).length∧yy (List.replicate ((yd (yf s l1).natAbs).length+(yd (yf t l2).natAbs).length) 0)∧(∀k,0+(yd (yf t l2).natAbs).length≤k→(List.replicate ((yd (yf s l1).natAbs).length+(yd (yf t l2).natAbs).length) 0).getD k 0=0)∧yk (List.replicate ((yd (yf s l1).natAbs).length+(yd (yf t l2).natAbs).length) 0)=yk ((yd (yf s l1).natAbs).take 0)*yk (yd (yf t l2).natAbs) from by exact ⟨by omega,by simp,Big.okL_zeros _,fun k _=>Big.getD_zeros _ k,by simp [Big.valL_zeros,yk]⟩) ((.e rfl cgs (.of rfl)):SubM _ _) (ho:=((.e (i:=0) rfl cgs (.of [0,0,0] rfl)):PickO _ _ _)) ((.of [0,1,2,3] rfl):SelR _ _ _) ?_
 rintro ⟨i,os⟩ hI
 replace hI:i≤(yd (yf s l1).natAbs).length∧os.length=(yd (yf s l1).natAbs).length+(yd (yf t l2).natAbs).length∧yy os∧(∀k,i+(yd (yf t l2).natAbs).length≤k→os.getD k 0=0)∧yk os=yk ((yd (yf s l1).natAbs).take i)*yk (yd (yf t l2).natAbs):=hI
 try dsimp only
 obtain ⟨hi,hol,hok,hz,hv⟩:=hI
 have hg1:=yq hoa i
 refine zh<|zh<|za<|e_mv rfl<|e_p (zf yg rfl sz39 rfl rfl)<|e_ru (zg 2 ty39 rfl rfl rfl)<|e_p (zR ye rfl)<|e_p (zda rfl rfl)<|zi<|ze<|zJ rfl (fun h9=> ?_) (fun h9=> ?_)
 ·
  refine zC<|ze<|zh<|zE<|zh<|za<|e_p (zd rfl)<|zi<|ze<|zh<|zh<|za<|e_p (zd rfl)<|zi<|ze<|zE<|zra (X:=Nat×(List Int)×Int) (fun x:Nat×(List Int)×Int=>x.1≤(yd (yf t l2).natAbs).length∧x.2.1.length=(yd (yf s l1).natAbs).length+(yd (yf t l2).natAbs).length∧yy x.2.1∧0≤x.2.2∧x.2.2<1000000000∧(∀k,i+(yd (yf t l2).natAbs).length≤k→x.2.1.getD k 0=0)∧yk x.2.1+yM (i+x.1)*x.2.2=yk ((yd (yf s l1).natAbs).take i)*yk (yd (yf t l2).natAbs)+yM i*(yd (yf s l1).natAbs).getD i 0*yk ((yd (yf t l2).natAbs).take x.1)) (fun x=>[(7,.int .u64 (x.2.2)),(8,ya yb ((x.1:Nat):Int)),(6,ya yb ((i:Nat):Int)),(5,.slice (some ⟨b8,0,none⟩) (((yd ((yf s l1).natAbs)).length)+((yd ((yf t l2).natAbs)).length)) (((yd ((yf s l1).natAbs)).length)+((yd ((yf t l2).natAbs)).length))),(4,yc (some ⟨b3,0,none⟩)),(3,yc (some ⟨b2,0,none⟩)),(2,yc (some ⟨b1,0,none⟩))]) (fun x=>[rowA 121 (rI .u32) (some ⟨b8,0,none⟩) (((yd ((yf s l1).natAbs)).length)+((yd ((yf t l2).natAbs)).length)) (x.2.1),boxA b2 41 [.bool (decide ((yf t l2)<0)),.slice p26 ((yd ((yf t l2).natAbs)).length) c27],boxA b1 41 [.bool (decide ((yf s l1)<0)),.slice p24 ((yd ((yf s l1).natAbs)).length) c25],boxA b3 41 [wz.b,wz.l]]) (fun x=>[slF (rI .u32) p26 c27 (yd ((yf t l2).natAbs)),slF (rI .u32) p24 c25 (yd ((yf s l1).natAbs)),slF (rI .u32) p1 c1 l1,slF (rI .u32) p2 c2 l2]) (fun x:Nat×(List Int)×Int=>(yd (yf t l2).natAbs).length - x.1) (0,os,0) (show 0≤(yd (yf t l2).natAbs).length∧os.length=(yd (yf s l1).natAbs).length+(yd (yf t l2).natAbs).length∧yy os∧0≤0∧0<1000000000∧(∀k,i+(yd (yf t l2).natAbs).length≤k→os.getD k 0=0)∧yk os+yM (i+0)*0=yk ((yd (yf s l1).natAbs).take i)*yk (yd (yf t l2).natAbs)+yM i*(yd (yf s l1).natAbs).getD i 0*yk ((yd (yf t l2).natAbs).take 0) from by exact ⟨by omega,hol,hok,by decide,by decide,hz,by rw [hv];simp [yk]⟩) ((.c rfl (.e rfl cgs (.of rfl))):SubM _ _) (ho:=((.of [0,0,0,0] rfl):PickO _ _ _)) ((.of [0,1,2,3] rfl):SelR _ _ _) ?_
  rintro ⟨j,os2,cy⟩ hJ
  replace hJ:j≤(yd (yf t l2).natAbs).length∧os2.length=(yd (yf s l1).natAbs).length+(yd (yf t l2).natAbs).length∧yy os2∧0≤cy∧cy<1000000000∧(∀k,i+(yd (yf t l2).natAbs).length≤k→os2.getD k 0=0)∧yk os2+yM (i+j)*cy=yk ((yd (yf s l1).natAbs).take i)*yk (yd (yf t l2).natAbs)+yM i*(yd (yf s l1).natAbs).getD i 0*yk ((yd (yf t l2).natAbs).take j):=hJ
  try dsimp only
  obtain ⟨hj,hol2,hok2,hcy0,hcy1,hz2,hv2⟩:=hJ
  have hg2:=yq hob j
  have hg3:=yq hok2 (i+j)
  have hpq:=Big.mul_lim hg1 hg2
  refine zh<|zh<|za<|e_mv rfl<|e_p (zf yg rfl sz39 rfl rfl)<|e_ru (zg 1 ty39 rfl rfl rfl)<|e_p (zR ye rfl)<|e_p (zda rfl rfl)<|zi<|ze<|zJ rfl (fun h10=> ?_) (fun h10=> ?_)
  ·
   refine zC<|ze<|zh<|zE<|zh<|zY (OW:=[]) (O:=[rowA 121 (rI .u32) (some ⟨b8,0,none⟩) (((yd ((yf s l1).natAbs)).length)+((yd ((yf t l2).natAbs)).length)) os2,boxA b2 41 [.bool (decide ((yf t l2)<0)),.slice p26 ((yd ((yf t l2).natAbs)).length) c27],boxA b1 41 [.bool (decide ((yf s l1)<0)),.slice p24 ((yd ((yf s l1).natAbs)).length) c25],boxA b3 41 [wz.b,wz.l]]) 100000 mixed (.then (.block (.then (.then (.block (.then (.block (.then (.then (.block (.then .ret))))))))))) kr<|e_dm 0 rfl rfl rfl<|e_dm 1 rfl rfl rfl<|e_dm 2 rfl rfl rfl<|e_pv 3 rfl rfl (zO (z:=(((i+j):Nat):Int)) rfl rfl (w64 om))<|e_pv 4 rfl rfl (zoa (j:=(i+j)) ye sz121 rfl rfl rfl om)<|d_vl 5 rfl rfl kr kr rfl rfl (zpa 0 (i+j) rfl ty121 rfl rfl (gD (d:=0) om) rfl) (fun _ hok11=> ?_)
   replace hok11:=zI.1 hok11
   refine e_pv 6 rfl rfl (zN (z:=(os2.getD (i+j) 0)) rfl (by rw [yh];rfl) yi (wu64 om))<|e_pv 7 rfl rfl (zf yg rfl sz39 rfl rfl)<|e_u 8 rfl rfl (zg 2 ty39 rfl rfl rfl)<|e_dm 9 rfl rfl rfl<|zga (x0:=((yd ((yf s l1).natAbs)).getD i 0)) 10 rfl rfl kr kr 1 i rfl ye sz121 rfl rfl rfl (by first|rfl|assumption|(simp;omega)|omega) rfl rfl (gD (d:=0) om) (fun b12 o13 hok14=> ?_)
   replace hok14:=zI.1 hok14
   refine e_u 11 rfl rfl (zB (j:=0) 0 ty121 rfl rfl rfl rfl)<|e_pv 12 rfl rfl (zN (z:=((yd ((yf s l1).natAbs)).getD i 0)) rfl (by rw [yh];rfl) yi (wu64 om))<|e_pv 13 rfl rfl (zf yg rfl sz39 rfl rfl)<|e_u 14 rfl rfl (zg 1 ty39 rfl rfl rfl)<|e_dm 15 rfl rfl rfl<|zga (x0:=((yd ((yf t l2).natAbs)).getD j 0)) 16 rfl rfl kr kr 1 j rfl ye sz121 rfl rfl rfl (by first|rfl|assumption|(simp;omega)|omega) rfl rfl (gD (d:=0) om) (fun b15 o16 hok17=> ?_)
   replace hok17:=zI.1 hok17
   refine e_u 17 rfl rfl (zB (j:=0) 0 ty121 rfl rfl rfl rfl)<|e_pv 18 rfl rfl (zN (z:=((yd ((yf t l2).natAbs)).getD j 0)) rfl (by rw [yh];rfl) yi (wu64 om))<|e_pv 19 rfl rfl (zEa (z:=(((yd ((yf s l1).natAbs)).getD i 0)*((yd ((yf t l2).natAbs)).getD j 0))) rfl rfl (wu64 om))<|e_pv 20 rfl rfl (zO (z:=((os2.getD (i+j) 0)+(((yd ((yf s l1).natAbs)).getD i 0)*((yd ((yf t l2).natAbs)).getD j 0)))) rfl rfl (wu64 om))<|e_dm 21 rfl rfl rfl<|e_pv 22 rfl rfl (zO (z:=(((os2.getD (i+j) 0)+(((yd ((yf s l1).natAbs)).getD i 0)*((yd ((yf t l2).natAbs)).getD j 0)))+cy)) rfl rfl (wu64 om))<|e_pv 23 rfl rfl (zd rfl)<|zW kr<|ze<|zh<|za<|e_mv rfl<|e_mv rfl<|e_mv rfl<|e_p (zO (z:=(((i+j):Nat):Int)) rfl rfl (w64 om))<|e_mv rfl<|e_p (zza (z:=((((os2.getD (i+j) 0)+(((yd ((yf s l1).natAbs)).getD i 0)*((yd ((yf t l2).natAbs)).getD j 0)))+cy)%1000000000)) rfl rfl om (remN om om))<|e_p (zN (z:=((((os2.getD (i+j) 0)+(((yd ((yf s l1).natAbs)).getD i 0)*((yd ((yf t l2).natAbs)).getD j 0)))+cy)%1000000000)) rfl (by rw [yi];rfl) yh (wu32 om))<|e_p (zoa (j:=(i+j)) ye sz121 rfl rfl rfl om)<|zQa 0 rfl rfl rfl (zia (j:=(i+j)) (x0:=((((os2.getD (i+j) 0)+(((yd ((yf s l1).natAbs)).getD i 0)*((yd ((yf t l2).natAbs)).getD j 0)))+cy)%1000000000)) (γ0:=()) rfl rfl (by first|omega|(rw [List.length_map];omega)|(simp only [List.length_set];omega)|(simp;done)|(simp;omega)) rfl rfl sz121 (fun _ _=>by exact zI.2 om)) (fun _=> .z) (fun _ _=> ?_)
   refine zi<|ze<|za<|e_mv rfl<|e_p (zmb (z:=((((os2.getD (i+j) 0)+(((yd ((yf s l1).natAbs)).getD i 0)*((yd ((yf t l2).natAbs)).getD j 0)))+cy) / 1000000000)) rfl rfl om (by rw [quoN (z:=((((os2.getD (i+j) 0)+(((yd ((yf s l1).natAbs)).getD i 0)*((yd ((yf t l2).natAbs)).getD j 0)))+cy) / 1000000000)) om om];exact wu64 om))<|e_p (zd rfl)<|zi<|zT<|ze<|za<|e_mv rfl<|e_p (zO (z:=(((j+1):Nat):Int)) rfl rfl (w64 om))<|e_p (zd rfl)<|zi<|zla ((j+1),os2.set (i+j) ((os2.getD (i+j) 0+(yd (yf s l1).natAbs).getD i 0*(yd (yf t l2).natAbs).getD j 0+cy)%1000000000),(os2.getD (i+j) 0+(yd (yf s l1).natAbs).getD i 0*(yd (yf t l2).natAbs).getD j 0+cy) / 1000000000) (show (j+1)≤(yd (yf t l2).natAbs).length∧(os2.set (i+j) ((os2.getD (i+j) 0+(yd (yf s l1).natAbs).getD i 0*(yd (yf t l2).natAbs).getD j 0+cy)%1000000000)).length=(yd (yf s l1).natAbs).length+(yd (yf t l2).natAbs).length∧yy (os2.set (i+j) ((os2.getD (i+j) 0+(yd (yf s l1).natAbs).getD i 0*(yd (yf t l2).natAbs).getD j 0+cy)%1000000000))∧0≤((os2.getD (i+j) 0+(yd (yf s l1).natAbs).getD i 0*(yd (yf t l2).natAbs).getD j 0+cy) / 1000000000)∧((os2.getD (i+j) 0+(yd (yf s l1).natAbs).getD i 0*(yd (yf t l2).natAbs).getD j 0+cy) / 1000000000)<1000000000∧(∀k,i+(yd (yf t l2).natAbs).length≤k→(os2.set (i+j) ((os2.getD (i+j) 0+(yd (yf s l1).natAbs).getD i 0*(yd (yf t l2).natAbs).getD j 0+cy)%1000000000)).getD k 0=0)∧yk (os2.set (i+j) ((os2.getD (i+j) 0+(yd (yf s l1).natAbs).getD i 0*(yd (yf t l2).natAbs).getD j 0+cy)%1000000000))+yM (i+(j+1))*((os2.getD (i+j) 0+(yd (yf s l1).natAbs).getD i 0*(yd (yf t l2).natAbs).getD j 0+cy) / 1000000000)=yk ((yd (yf s l1).natAbs).take i)*yk (yd (yf t l2).natAbs)+yM i*(yd (yf s l1).natAbs).getD i 0*yk ((yd (yf t l2).natAbs).take (j+1)) from by exact ⟨by omega,by simpa using hol2,Big.okL_set hok2 om om,by omega,by omega,fun k hk=>by rw [Big.getD_set_ne om];exact hz2 k om,Big.mul_step hv2 om om⟩) (by show (yd (yf t l2).natAbs).length - (j+1)<(yd (yf t l2).natAbs).length - j;omega) ((.e rfl cgs (.of rfl)):SubM _ _) (ho:=((.e (i:=0) rfl cgs (.of [0,0,0] rfl)):PickO _ _ _)) ((.of [2,3,4,5] rfl):SelR _ _ _)
  ·
   have hjb:j=(yd (yf t l2).natAbs).length:=by omega
   subst hjb
   have hv3:=hv2
   refine zqa<|zk<|zk<|zD<|ze<|za<|e_mv rfl<|e_mv rfl<|e_p (zf yg rfl sz39 rfl rfl)<|e_ru (zg 1 ty39 rfl rfl rfl)<|e_p (zR ye rfl)<|e_p (zO (z:=(((i+((yd ((yf t l2).natAbs)).length)):Nat):Int)) rfl rfl (w64 om))<|e_mv rfl<|e_p (zN (z:=cy) rfl (by rw [yi];rfl) yh (wu32 om))<|e_p (zoa (j:=(i+((yd ((yf t l2).natAbs)).length))) ye sz121 rfl rfl rfl om)<|zQa 0 rfl rfl rfl (zia (j:=(i+((yd ((yf t l2).natAbs)).length))) (x0:=cy) (γ0:=()) rfl rfl (by first|omega|(rw [List.length_map];omega)|(simp only [List.length_set];omega)|(simp;done)|(simp;omega)) rfl rfl sz121 (fun _ _=>by exact zI.2 om)) (fun _=> .z) (fun _ _=> ?_)
   refine zi<|zT<|ze<|za<|e_mv rfl<|e_p (zO (z:=(((i+1):Nat):Int)) rfl rfl (w64 om))<|e_p (zd rfl)<|zi<|zla ((i+1),os2.set (i+(yd (yf t l2).natAbs).length) cy) (show (i+1)≤(yd (yf s l1).natAbs).length∧(os2.set (i+(yd (yf t l2).natAbs).length) cy).length=(yd (yf s l1).natAbs).length+(yd (yf t l2).natAbs).length∧yy (os2.set (i+(yd (yf t l2).natAbs).length) cy)∧(∀k,(i+1)+(yd (yf t l2).natAbs).length≤k→(os2.set (i+(yd (yf t l2).natAbs).length) cy).getD k 0=0)∧yk (os2.set (i+(yd (yf t l2).natAbs).length) cy)=yk ((yd (yf s l1).natAbs).take (i+1))*yk (yd (yf t l2).natAbs) from by exact ⟨by omega,by simpa using hol2,Big.okL_set hok2 om om,fun k hk=>by rw [Big.getD_set_ne om];exact hz2 k om,Big.mul_round hv3 om (hz2 _ (Nat.le_refl _))⟩) (by show (yd (yf s l1).natAbs).length - (i+1)<(yd (yf s l1).natAbs).length - i;omega) (mR rfl) (ho:=((.e (i:=0) rfl cgs (.of [0,0,0] rfl)):PickO _ _ _)) ((.of [0,1,2,3] rfl):SelR _ _ _)
 ·
  have hia:i=(yd (yf s l1).natAbs).length:=by omega
  have hfin:yB (decide (decide (yf s l1<0)≠decide (yf t l2<0))) (yk os)=yf s l1*yf t l2:=by rw [hv,hia,List.take_length,yx,yx,←Int.natCast_mul,Big.sg_mul,Big.sg_big,Big.sg_big]
  refine zqa<|zk<|zk<|zD<|ze<|zh<|za<|e_p (zf yg rfl sz4 rfl rfl)<|e_ru (zg 2 ty4 rfl rfl rfl)<|e_p (zf yg rfl sz4 rfl rfl)<|e_ru (zg 1 ty4 rfl rfl rfl)<|e_p (zTa yz rfl rfl)<|e_mv rfl<|zka 0 rfl .z<|zG rfl rfl (.c rfl (.c rfl .n)) ce112 (zRa (s:=decide (decide ((yf s l1)<0)≠decide ((yf t l2)<0))) (p:=some ⟨b8,0,none⟩) (n:=(((yd ((yf s l1).natAbs)).length)+((yd ((yf t l2).natAbs)).length))) (cap:=(((yd ((yf s l1).natAbs)).length)+((yd ((yf t l2).natAbs)).length))) (l:=os) (hn:=by first|rfl|assumption|omega|(unfold yo;omega)|(simp;done)|(simp;omega)|(simp_all;done)) (ho:=by exact hok) (hln:=by first|rfl|assumption|omega|(unfold yo;omega)|(simp;done)|(simp;omega)|(simp_all;done))) (.c (j:=0) rfl .n) ?_
  rintro ⟨p218,c219⟩ -
  dsimp only [aq,nq,cq]
  refine zm 3 rfl rfl rfl rfl rfl sz41 rfl (.t2 .nil) (.s (.s (.s .z)))<|zi<|ze<|zL ?_
  exact zx Tryz.results73 (p218,c219) trivial (zv 3 ty41 rfl rfl (.t2 .nil)) (by rw [hfin]) (ho:=oN) ((.e (j:=0) rfl (by rw [hfin]) .n):SelR _ _ _)
theorem zrc {x1:Int} {x2:Int} {p1:Option Addr} {c1:Nat} {p2:Option Addr} {c2:Nat} (hb1:yo x1≤4398046511104) (hb2:yo x2≤4398046511104):Con yl 73 [.agg #[.bool (decide ((x1)<0)),.slice (p1) ((yd ((x1).natAbs)).length) (c1)],.agg #[.bool (decide ((x2)<0)),.slice (p2) ((yd ((x2).natAbs)).length) (c2)]] [] [slF (rI .u32) (p1) (c1) (yd ((x1).natAbs)),slF (rI .u32) (p2) (c2) (yd ((x2).natAbs))] (Y:=(Option Addr)×(Nat)) (fun y=>True) (fun y=> .agg #[.bool (decide ((x1*x2)<0)),.slice (y.1) ((yd ((x1*x2).natAbs)).length) (y.2)]) (fun y=>[]) (fun y=>[slF (rI .u32) (y.1) (y.2) (yd ((x1*x2).natAbs))]):=by
  have h:= @zeg (decide ((x1)<0)) p1 (yd (x1).natAbs).length c1 (yd (x1).natAbs) (decide ((x2)<0)) p2 (yd (x2).natAbs).length c2 (yd (x2).natAbs) rfl rfl hb1 hb2
  rw [yu,yu] at h
  exact h
theorem ztb {w1:Wd} {w2:Wd} {x1:Int} {x2:Int} (hb1:yo x1≤4398046511104) (hb2:yo x2≤4398046511104):Con yl 73 [.agg #[w1.b,w1.l],.agg #[w2.b,w2.l]] [] [zF w1 (x1),zF w2 (x2)] (Y:=(Wd)) (fun y=>True) (fun y=> .agg #[y.b,y.l]) (fun y=>[]) (fun y=>[zF y (x1*x2)]):=by
  exact zZb (zHc (fun p1 c1 p2 c2=>zrc hb1 hb2))
end Go.Proofs.YtjcpbhlijoigfaaGreat.Sp
namespace Go.Proofs.YtjcpbhlijoigfaaGreat.Sp
open Go
set_option linter.unusedVariables false
set_option maxRecDepth 100000
set_option maxHeartbeats 8000000
theorem zdc {a:Nat} {d:Nat} {p0:Option Addr} {cap:Nat} (hb:(yd a).length≤4398046511104) (hd:d<1000000000):Con yl 145 [.slice p0 ((yd a).length) cap,.int .u64 ((d:Nat):Int)] [] [slF (rI .u32) p0 cap (yd a)] (Y:=(Option Addr)×Nat) (fun y=>True) (fun y=> .slice (y.1) ((yd (a*d)).length) (y.2)) (fun y=>[]) (fun y=>[slF (rI .u32) (y.1) (y.2) (yd (a*d))]):=by
 refine zo Tryz.func145 rfl rfl rfl (fun c=> ?_)
 show RunC _ _ _ _ _ [(0,.slice p0 ((yd a).length) cap),(1,.int .u64 ((d:Nat):Int))] [] [slF (rI .u32) p0 cap (yd a)]
 refine zea 0 rfl (fun hL0=> ?_)
 refine zh<|za<|e_p (zd rfl)<|zi<|ze<|zh<|za<|zKa rfl rfl (zva (rI .u32) ye inf121) (fun b1 _=> ?_)
 refine e_p (zd rfl)<|zi<|ze<|zh<|za<|e_p (zd rfl)<|zi<|ze<|zh<|zh<|za<|e_p (zd rfl)<|zi<|ze<|zE<|zra (X:=Nat×(Option Addr)×Nat×(List Int)×Int) (fun x:Nat×(Option Addr)×Nat×(List Int)×Int=>Big.ScI (yd a) (d:Int) x.1 x.2.2.2.1 x.2.2.2.2) (fun x=>[(6,.int .u64 (x.2.2.2.2)),(5,.slice (x.2.1) (x.2.2.2.1.length) (x.2.2.1)),(7,ya yb ((x.1:Nat):Int)),(4,.slice none 0 0),(0,.slice p0 ((yd a).length) cap),(1,.int .u64 ((d:Nat):Int))]) (fun x=>[rowA 121 (rI .u32) (x.2.1) (x.2.2.1) (x.2.2.2.1)]) (fun x=>[slF (rI .u32) p0 cap (yd a)]) (fun x:Nat×(Option Addr)×Nat×(List Int)×Int=>(yd a).length - x.1) (0,some ⟨b1,0,none⟩,0,[],0) (show Big.ScI (yd a) (d:Int) 0 ([]) 0 from by exact Big.ScI.start _ _) ((.c rfl (.e rfl cgs (.e rfl cgs (.of rfl)))):SubM _ _) (ho:=(o0 rfl)) (s0 rfl) ?_
 rintro ⟨i,p,c,os,cy⟩ hI
 replace hI:Big.ScI (yd a) (d:Int) i os cy:=hI
 try dsimp only
 have hi:=hI.le
 have hol:=hI.len
 have hc0:=hI.c0
 have hc1:=hI.c1
 have hg:=yq (yp a) i
 have hsl:=Big.sc_lim hg (show 0≤(d:Int)∧(d:Int)<1000000000 by omega) ⟨hc0,hc1⟩
 refine zh<|zh<|za<|e_mv rfl<|e_mv rfl<|e_p (zR ye rfl)<|e_p (zda rfl rfl)<|zi<|ze<|zJ rfl (fun h2=> ?_) (fun h2=> ?_)
 ·
  refine zC<|ze<|zh<|zE<|zh<|za<|e_mv rfl<|e_mv rfl<|zX (x0:=((yd a).getD i 0)) 0 i rfl ye sz121 rfl rfl rfl (by first|rfl|assumption|(simp;done)|(simp;omega)|omega) rfl rfl (gD (d:=0) om) (fun b3 o4 hok5=> ?_)
  replace hok5:=zI.1 hok5
  refine e_ru (zB (j:=0) 0 ty121 rfl rfl rfl rfl)<|e_p (zN (z:=((yd a).getD i 0)) rfl (by rw [yh];rfl) yi (wu64 om))<|e_mv rfl<|e_p (zEa (z:=(((yd a).getD i 0)*((d:Nat):Int))) rfl rfl (wu64 om))<|e_mv rfl<|e_p (zO (z:=((((yd a).getD i 0)*((d:Nat):Int))+cy)) rfl rfl (wu64 om))<|e_p (zd rfl)<|zi<|ze<|zh<|za<|e_mv rfl<|e_mv rfl<|e_p (zza (z:=(((((yd a).getD i 0)*((d:Nat):Int))+cy)%1000000000)) rfl rfl om (remN om om))<|e_p (zN (z:=(((((yd a).getD i 0)*((d:Nat):Int))+cy)%1000000000)) rfl (by rw [yi];rfl) yh (wu32 om))<|zKa rfl rfl (zba (enc:=fun z:Int=>[.int .u32 z]) (ok:=InK .u32) (h1:=fun _=>rfl) (h2:=fun _=>rfl) (k:=1) ye inf121 rfl dd dd dd (.c (x:=(((((yd a).getD i 0)*((d:Nat):Int))+cy)%1000000000)) rfl rfl (fun _ _=>by exact zI.2 om) .n)) (fun b6 _=> ?_)
  refine zka 0 rfl .z<|zQa 1 rfl rfl rfl (zua 0 rfl ye inf121 dd rfl rfl (by first|rfl|assumption|(simp;done)|(simp;omega)|omega) rfl (by first|rfl|assumption|(simp;done)|(simp;omega)|omega) om om) (fun _=>(.s .z)) ?_
  rintro ⟨p7,c8⟩ -
  dsimp only [aq,nq,cq]
  refine e_p (zd rfl)<|zi<|ze<|za<|e_mv rfl<|e_p (zmb (z:=(((((yd a).getD i 0)*((d:Nat):Int))+cy) / 1000000000)) rfl rfl om (by rw [quoN (z:=(((((yd a).getD i 0)*((d:Nat):Int))+cy) / 1000000000)) om om];exact wu64 om))<|e_p (zd rfl)<|zi<|zT<|ze<|za<|e_mv rfl<|e_p (zO (z:=(((i+1):Nat):Int)) rfl rfl (w64 om))<|e_p (zd rfl)<|zi<|zla ((i+1),p7,c8,os++[((yd a).getD i 0*(d:Int)+cy)%1000000000],((yd a).getD i 0*(d:Int)+cy) / 1000000000) (show Big.ScI (yd a) (d:Int) (i+1) (os++[((yd a).getD i 0*(d:Int)+cy)%1000000000]) (((yd a).getD i 0*(d:Int)+cy) / 1000000000) from by exact hI.step (yp a) om om) (by show (yd a).length - (i+1)<(yd a).length - i;omega) ((.e rfl cgs (.e rfl (by simp) (.of rfl))):SubM _ _) (ho:=((.e (i:=1) rfl cgs .n):PickO _ _ _)) ((.c (j:=2) rfl .n):SelR _ _ _)
 ·
  obtain ⟨hok2,hfin⟩:=hI.fin om
  refine zqa<|zk<|zk<|zD<|ze<|zh<|za<|e_mv rfl<|e_mv rfl<|e_p (zN (z:=cy) rfl (by rw [yi];rfl) yh (wu32 om))<|zKa rfl rfl (zba (enc:=fun z:Int=>[.int .u32 z]) (ok:=InK .u32) (h1:=fun _=>rfl) (h2:=fun _=>rfl) (k:=1) ye inf121 rfl dd dd dd (.c (x:=cy) rfl rfl (fun _ _=>by exact zI.2 om) .n)) (fun b9 _=> ?_)
  refine zka 0 rfl .z<|zQa 1 rfl rfl rfl (zua 0 rfl ye inf121 dd rfl rfl (by first|rfl|assumption|(simp;done)|(simp;omega)|omega) rfl (by first|rfl|assumption|(simp;done)|(simp;omega)|omega) om om) (fun _=>(.s .z)) ?_
  rintro ⟨p10,c11⟩ -
  dsimp only [aq,nq,cq]
  refine zka 1 rfl (.s .z)<|zG rfl rfl (.c rfl (.c rfl .n)) ce112 (zRa (s:=false) (p:=p10) (n:=os.length+1) (cap:=c11) (l:=(os++([cy]))) (hn:=by first|rfl|omega|(simp;done)|(simp;omega)) (ho:=by exact hok2) (hln:=by first|rfl|omega|(simp;done)|(simp;omega))) (.c (j:=0) rfl .n) ?_
  rintro ⟨p212,c213⟩ -
  dsimp only [aq,nq,cq]
  refine e_p (zFa yg rfl ty39 rfl rfl)<|e_p (zd rfl)<|zi<|ze<|zL ?_
  have hz:(yB false (yk (os++[cy]))).natAbs=a*d:=by rw [hfin];exact Int.natAbs_natCast _
  exact zx Tryz.results145 (p212,c213) trivial (zl rfl) (by rw [hz]) (ho:=oN) ((.e (j:=0) rfl (by rw [hz]) .n):SelR _ _ _)
theorem zSd {a:Nat} {d:Nat} {p0:Option Addr} {cap:Nat} (hb:(yd a).length≤4398046511104) (hd:d<1000000000):Con yl 146 [.slice p0 ((yd a).length) cap,.int .u32 ((d:Nat):Int)] [] [slF (rI .u32) p0 cap (yd a)] (Y:=(Option Addr)×Nat) (fun y=>True) (fun y=> .slice (y.1) ((yd (a*1000000000+d)).length) (y.2)) (fun y=>[]) (fun y=>[slF (rI .u32) (y.1) (y.2) (yd (a*1000000000+d))]):=by
 refine zo Tryz.func146 rfl rfl rfl (fun c=> ?_)
 show RunC _ _ _ _ _ [(0,.slice p0 ((yd a).length) cap),(1,.int .u32 ((d:Nat):Int))] [] [slF (rI .u32) p0 cap (yd a)]
 refine zea 0 rfl (fun hL0=> ?_)
 have hok2:yy ([((d:Nat):Int)]++yd a):=Big.okL_cons.2 ⟨by omega,yp a⟩
 have hz:(yB false (yk (((d:Nat):Int) :: yd a))).natAbs=a*1000000000+d:=by rw [Big.sg_abs (yL (l:=((d:Nat):Int) :: yd a) hok2)];simp only [yk,yx];omega
 refine zh<|za<|e_p (zd rfl)<|zi<|ze<|zh<|za<|e_mv rfl<|zKa rfl rfl (zba (enc:=fun z:Int=>[.int .u32 z]) (ok:=InK .u32) (h1:=fun _=>rfl) (h2:=fun _=>rfl) (k:=1) ye inf121 rfl dd dd dd (.c (x:=((d:Nat):Int)) rfl rfl (fun _ _=>by exact zI.2 om) .n)) (fun b1 _=> ?_)
 refine e_mv rfl<|zQa 0 rfl rfl rfl (zua 0 rfl ye inf121 dd rfl rfl (by first|rfl|assumption|(simp;done)|(simp;omega)|omega) rfl (by first|rfl|assumption|(simp;done)|(simp;omega)|omega) om om) (fun _=> .z) ?_
 rintro ⟨p2,c3⟩ -
 dsimp only [aq,nq,cq]
 refine zka 0 rfl .z<|zG rfl rfl (.c rfl (.c rfl .n)) ce112 (zRa (s:=false) (p:=p2) (n:=1+((yd a).length)) (cap:=c3) (l:=(([((d:Nat):Int)])++(yd a))) (hn:=by first|rfl|omega|(simp;done)|(simp;omega)) (ho:=by exact hok2) (hln:=by first|rfl|omega|(simp;done)|(simp;omega))) (.c (j:=0) rfl .n) ?_
 rintro ⟨p24,c25⟩ -
 dsimp only [aq,nq,cq]
 refine e_p (zFa yg rfl ty39 rfl rfl)<|e_p (zd rfl)<|zi<|ze<|zL ?_
 exact zx Tryz.results146 (p24,c25) trivial (zl rfl) (by rw [hz]) (ho:=oN) ((.e (j:=0) rfl (by rw [hz]) .n):SelR _ _ _)
theorem zmd {a:Nat} {mm:Nat} {p:Option Addr} {cap:Nat} (hb:(yd a).length≤4398046511104) (hm0:0<mm) (hm1:mm≤1000000000):Con yl 144 [.slice p ((yd a).length) cap,.int .u64 ((mm:Nat):Int)] [] [slF (rI .u32) p cap (yd a)] (Y:=(Option Addr)×Nat) (fun y=>True) (fun y=> .tuple #[.slice (y.1) ((yd (a / mm)).length) (y.2),.int .u64 (((a%mm):Nat):Int)]) (fun y=>[]) (fun y=>[slF (rI .u32) (y.1) (y.2) (yd (a / mm))]):=by
 refine zo Tryz.func144 rfl rfl rfl (fun c=> ?_)
 show RunC _ _ _ _ _ [(0,.slice p ((yd a).length) cap),(1,.int .u64 ((mm:Nat):Int))] [] [slF (rI .u32) p cap (yd a)]
 refine zea 0 rfl (fun hL0=> ?_)
 refine zh<|za<|e_p (zd rfl)<|e_p (zd rfl)<|zi<|ze<|zh<|za<|e_mv rfl<|e_p (zR ye rfl)<|zKa rfl rfl (zyb (r:=rI .u32) (k:=(yd a).length) (x0:=0) (γ0:=()) ye inf121 rfl rfl rfl rfl om om rfl (fun g _=>by exact zI.2 dd) dd) (fun b1 _=> ?_)
 refine e_p (zd rfl)<|zi<|ze<|zh<|za<|e_p (zd rfl)<|zi<|ze<|zh<|zh<|za<|e_mv rfl<|e_p (zR ye rfl)<|e_p (zna (z:=((((yd a).length:Nat):Int) - 1)) rfl rfl (w64 om))<|e_p (zd rfl)<|zi<|ze<|zE<|zra (X:=Nat×(List Int)×(List Int)×Int) (fun x:Nat×(List Int)×(List Int)×Int=>x.2.1=List.replicate x.1 0++x.2.2.1∧Big.ShI (yd a) (mm:Int) x.1 x.2.2.1 x.2.2.2) (fun x=>[(7,.int .u64 (x.2.2.2)),(8,ya yb (((x.1:Nat):Int) - 1)),(6,.slice (some ⟨b1,0,none⟩) ((yd a).length) ((yd a).length)),(5,.int .u64 0),(4,.slice none 0 0),(0,.slice p ((yd a).length) cap),(1,.int .u64 ((mm:Nat):Int))]) (fun x=>[rowA 121 (rI .u32) (some ⟨b1,0,none⟩) ((yd a).length) (x.2.1)]) (fun x=>[slF (rI .u32) p cap (yd a)]) (fun x:Nat×(List Int)×(List Int)×Int=>x.1) ((yd a).length,(List.replicate (yd a).length 0),([]:List Int),(0:Int)) (show (List.replicate (yd a).length 0)=List.replicate ((yd a).length) 0++([]:List Int)∧Big.ShI (yd a) (mm:Int) ((yd a).length) ([]:List Int) (0:Int) from by exact ⟨by simp,Big.ShI.start om⟩) ((.e rfl cgs (.e rfl cgs (.of rfl))):SubM _ _) (ho:=((.e (i:=0) rfl cgs .n):PickO _ _ _)) (s0 rfl) ?_
 rintro ⟨jj,os,qs,z⟩ hI
 replace hI:os=List.replicate jj 0++qs∧Big.ShI (yd a) (mm:Int) jj qs z:=hI
 try dsimp only
 obtain ⟨hos,hS⟩:=hI
 have hz0:=hS.r0
 have hz1:=hS.r1
 have hkle:=hS.le
 refine zh<|zh<|za<|e_mv rfl<|e_p (zNa rfl rfl)<|zi<|ze<|zJ rfl (fun h2=> ?_) (fun h2=> ?_)
 ·
  obtain ⟨k,rfl⟩:∃k,jj=k+1:=⟨jj - 1,by omega⟩
  have e3:(((((k+1):Nat):Int) - 1):Int)=((k:Nat):Int):=by omega
  rw [e3]
  have hosl:os.length=(yd a).length:=by rw [hos,List.length_append,List.length_replicate,hS.len];omega
  have hg:=yq (yp a) k
  have hdg:=Big.sh_digit hz0 hz1 hg
  have hrm:=Int.emod_lt_of_pos (z*1000000000+(yd a).getD k 0) (show 0<(mm:Int) by omega)
  have hrm0:=Int.emod_nonneg (z*1000000000+(yd a).getD k 0) (show (mm:Int)≠0 by omega)
  refine zC<|ze<|zh<|zE<|zh<|za<|e_mv rfl<|e_p (zEa (z:=(z*1000000000)) rfl rfl (wu64 om))<|e_mv rfl<|e_mv rfl<|zX (x0:=((yd a).getD k 0)) 0 k rfl ye sz121 rfl rfl rfl (by first|rfl|assumption|(simp;done)|(simp;omega)|omega) rfl rfl (gD (d:=0) om) (fun b4 o5 hok6=> ?_)
  replace hok6:=zI.1 hok6
  refine e_ru (zB (j:=0) 0 ty121 rfl rfl rfl rfl)<|e_p (zN (z:=((yd a).getD k 0)) rfl (by rw [yh];rfl) yi (wu64 om))<|e_p (zO (z:=((z*1000000000)+((yd a).getD k 0))) rfl rfl (wu64 om))<|e_p (zd rfl)<|zi<|ze<|zh<|za<|e_mv rfl<|e_mv rfl<|e_mv rfl<|e_mv rfl<|e_p (zmb (z:=(((z*1000000000)+((yd a).getD k 0)) / ((mm:Nat):Int))) rfl rfl om (by rw [quoN (z:=(((z*1000000000)+((yd a).getD k 0)) / ((mm:Nat):Int))) om om];exact wu64 om))<|e_p (zN (z:=(((z*1000000000)+((yd a).getD k 0)) / ((mm:Nat):Int))) rfl (by rw [yi];rfl) yh (wu32 om))<|e_p (zoa (j:=k) ye sz121 rfl rfl rfl om)<|zQa 0 rfl rfl rfl (zia (j:=k) (x0:=(((z*1000000000)+((yd a).getD k 0)) / ((mm:Nat):Int))) (γ0:=()) rfl rfl (by first|omega|(rw [List.length_map];omega)|(simp only [List.length_set];omega)|(simp;done)|(simp;omega)) rfl rfl sz121 (fun _ _=>by exact zI.2 om)) (fun _=> .z) (fun _ _=> ?_)
  refine zi<|ze<|za<|e_mv rfl<|e_mv rfl<|e_p (zza (z:=(((z*1000000000)+((yd a).getD k 0))%((mm:Nat):Int))) rfl rfl om (remN om om))<|e_p (zd rfl)<|zi<|zT<|ze<|za<|e_mv rfl<|e_p (zna (z:=(((k:Nat):Int) - 1)) rfl rfl (w64 om))<|e_p (zd rfl)<|zi<|zla (k,(os.set k (((z*1000000000)+((yd a).getD k 0)) / ((mm:Nat):Int))),((z*1000000000+(yd a).getD k 0) / (mm:Int) :: qs),((z*1000000000+(yd a).getD k 0)%(mm:Int))) (show (os.set k (((z*1000000000)+((yd a).getD k 0)) / ((mm:Nat):Int)))=List.replicate k 0++((z*1000000000+(yd a).getD k 0) / (mm:Int) :: qs)∧Big.ShI (yd a) (mm:Int) k ((z*1000000000+(yd a).getD k 0) / (mm:Int) :: qs) ((z*1000000000+(yd a).getD k 0)%(mm:Int)) from by exact ⟨by rw [hos];exact Big.pad_set _,hS.step (yp a)⟩) (by show k<k+1;omega) ((.e rfl cgs (.of rfl)):SubM _ _) (ho:=(o0 rfl)) ((.c (j:=1) rfl .n):SelR _ _ _)
 ·
  have hj0:jj=0:=by omega
  have hS0:Big.ShI (yd a) (mm:Int) 0 qs z:=hj0 ▸ hS
  obtain ⟨hf1,hf2⟩:=hS0.fin
  have hoq:os=qs:=by rw [hos,hj0];rfl
  have hok2:yy os:=by rw [hoq];exact hS.ok
  have hosl:os.length=(yd a).length:=by rw [hoq,hS0.len];omega
  have hz9:(yB false (yk os)).natAbs=a / mm:=by rw [hoq,Big.sg_abs (yL hS.ok),←Big.valL_trim,hf1,yx];exact Int.toNat_natCast _
  refine zqa<|zk<|zk<|zD<|ze<|zh<|za<|e_mv rfl<|zka 0 rfl .z<|zG rfl rfl (.c rfl (.c rfl .n)) ce112 (zRa (s:=false) (p:=some ⟨b1,0,none⟩) (n:=(yd a).length) (cap:=(yd a).length) (l:=os) (hn:=by first|rfl|omega|(simp;done)|(simp;omega)) (ho:=by exact hok2) (hln:=by first|rfl|omega|(simp;done)|(simp;omega))) (.c (j:=0) rfl .n) ?_
  rintro ⟨p27,c28⟩ -
  dsimp only [aq,nq,cq]
  refine e_p (zFa yg rfl ty39 rfl rfl)<|e_mv rfl<|e_p (zd rfl)<|e_p (zd rfl)<|zi<|ze<|zL ?_
  exact zBa Tryz.results144 (p27,c28) trivial (zl rfl) (zl rfl) (by rw [hz9,hf2]) (ho:=oN) ((.e (j:=0) rfl (by rw [hz9]) .n):SelR _ _ _)
theorem zTd {a:Nat} {p:Option Addr} {cap:Nat} (hb:(yd a).length≤2):Con yl 132 [.slice p ((yd a).length) cap] [] [slF (rI .u32) p cap (yd a)] (Y:=Unit) (fun y=>True) (fun y=> .int .u64 ((a:Nat):Int)) (fun y=>[]) (fun y=>[]):=by
 refine zo Tryz.func132 rfl rfl rfl (fun c=> ?_)
 show RunC _ _ _ _ _ [(0,.slice p ((yd a).length) cap)] [] [slF (rI .u32) p cap (yd a)]
 refine zea 0 rfl (fun hL0=> ?_)
 have hpv:=Big.pair_val hb
 have hg0:=yq (yp a) 0
 have hg1:=yq (yp a) 1
 refine zh<|za<|e_p (zd rfl)<|zi<|ze<|zh<|za<|e_mv rfl<|zQ rfl rfl (.c rfl (.c rfl .n)) ce143 (zfb (p:=p) (n:=(yd a).length) (cap:=cap) (l:=yd a) (i:=1) (hn:=cbb) (hi:=cbb)) (.c (j:=0) rfl .n)<|e_p (zEa (z:=((yd a).getD 1 0*1000000000)) rfl rfl (wu64 om))<|e_mv rfl<|zQ rfl rfl (.c rfl (.c rfl .n)) ce143 (zfb (p:=p) (n:=(yd a).length) (cap:=cap) (l:=yd a) (i:=0) (hn:=cbb) (hi:=cbb)) (.c (j:=0) rfl .n)<|e_p (zO (z:=(((yd a).getD 1 0*1000000000)+(yd a).getD 0 0)) rfl rfl (wu64 om))<|e_p (zd rfl)<|zi<|ze<|zL ?_
 exact zx Tryz.results132 () trivial (zl rfl) (by rw [hpv]) (ho:=oN) sN
end Go.Proofs.YtjcpbhlijoigfaaGreat.Sp
