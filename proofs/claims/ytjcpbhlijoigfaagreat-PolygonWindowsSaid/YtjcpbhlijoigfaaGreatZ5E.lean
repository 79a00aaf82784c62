/- Lemmas on the walk and plain lemmas that the claim of this folder uses; each states its own conditions. Lines were printed by a program of ours. -/
import Derived.Test.YtjcpbhlijoigfaaGreatZ5D
set_option linter.unusedVariables false
set_option linter.unusedSimpArgs false
set_option linter.unusedSectionVars false
open Go.Value renaming int → ya, pointer → yc
open Go.IntKind renaming i64 → yb
open Go.Proofs.YtjcpbhlijoigfaaGreat.Big renaming digs → yd, ln → ym, raw → yn, zU → yp, ln_mono' → yy, hq → yz, fq → yA, hq_num → yC, hq_den → yD, digs_ok → yH, okL_getD → yI, zOa → yJ, sg → yL, len_digs_nil → yM, sgq → yN, zab → yP, fr → yQ
open Go.Proofs.YtjcpbhlijoigfaaGreat.Pg renaming gq → ye, hp_pq → yq, pq → yr, clL → yv, pts → yx, clN → yB, inR → yO
open Go.Proofs.Tryz renaming underlying43 → yf, underlying69 → yg, underlying22 → yh, underlying34 → yi, underlying39 → yj, prog → yk, underlying30 → yl, underlying41 → yo, underlying121 → yt, underlying120 → yu, underlying54 → yE, results15 → yF, underlying3 → yG, results17 → yK
open Go.Proofs.YtjcpbhlijoigfaaGreat.Ms renaming all_lt_succ → yw
namespace Go.Proofs.YtjcpbhlijoigfaaGreat.Sp
open Go
set_option linter.unusedVariables false
set_option maxRecDepth 100000
set_option maxHeartbeats 8000000
theorem znd {a:Nat} {b:Nat} {p1:Option Addr} {c1:Nat} {p2:Option Addr} {c2:Nat} (hb1:(yd a).length≤2199023255552) (hb2:(yd b).length≤2199023255552) (hb0:0<b):Con yk 131 [.slice p1 ((yd a).length) c1,.slice p2 ((yd b).length) c2] [] [slF (rI .u32) p1 c1 (yd a),slF (rI .u32) p2 c2 (yd b)] (Y:=(Option Addr)×Nat×(Option Addr)×Nat) (fun y=>True) (fun y=> .tuple #[.slice (y.1) ((yd (a / b)).length) (y.2.1),.slice (y.2.2.1) ((yd (a%b)).length) (y.2.2.2)]) (fun y=>[]) (fun y=>[slF (rI .u32) (y.1) (y.2.1) (yd (a / b)),slF (rI .u32) (y.2.2.1) (y.2.2.2) (yd (a%b))]):=by
 refine zo Tryz.func131 rfl rfl rfl (fun c=> ?_)
 show RunC _ _ _ _ _ [(0,.slice p1 ((yd a).length) c1),(1,.slice p2 ((yd b).length) c2)] [] [slF (rI .u32) p1 c1 (yd a),slF (rI .u32) p2 c2 (yd b)]
 refine zea 0 rfl (fun hL0=> ?_)
 refine zea 1 rfl (fun hL1=> ?_)
 have hln0:=Big.zuf hb0
 have hob:=yI (yH b) 0
 have hob1:=yI (yH b) ((yd b).length - 1)
 have hdv:=yy (Nat.div_le_self a b)
 have hdm:=Nat.mod_lt a hb0
 refine zh<|za<|e_p (zd rfl)<|e_p (zd rfl)<|zi<|ze<|zh<|za<|e_mv rfl<|e_p (zR yj rfl)<|e_p (zd rfl)<|zi<|ze<|zh<|zh<|za<|e_mv rfl<|e_p (zxa rfl rfl)<|zi<|ze<|zJ rfl (fun hl1=> ?_) (fun hl1=> ?_)
 ·
  have hbd:=Big.one_digit (by omega:(yd b).length=1)
  have hbl:b<1000000000:=by omega
  have hokt:Big.okL [((a%b:Nat):Int)]:=Big.okL_cons.2 ⟨by omega,Big.okL_nil⟩
  have hz3:=Big.made_nat hokt (show Big.valL [((a%b:Nat):Int)]=((a%b:Nat):Int) by simp only [Big.valL];omega)
  refine zh<|za<|e_mv rfl<|e_mv rfl<|zX (x0:=((yd b).getD 0 0)) 1 0 rfl yj sz121 rfl rfl rfl (by first|rfl|assumption|(simp;done)|(simp;omega)|omega) rfl rfl (gD (d:=0) om) (fun b1 o2 hok3=> ?_)
  replace hok3:=zI.1 hok3
  refine e_ru (zB (j:=0) 0 ty121 rfl rfl rfl rfl)<|e_p (zN (z:=((yd b).getD 0 0)) rfl (by rw [yt];rfl) yu (wu64 om)) ?_
  have e4:(((yd b).getD 0 0):Int)=((b:Nat):Int):=by exact hbd
  rw [e4]
  refine zG rfl rfl (.c rfl (.c rfl .n)) ce144 (zmd (a:=a) (mm:=b) (p:=p1) (cap:=c1) (hb:=by first|rfl|assumption|omega|(simp;done)) (hm0:=ass) (hm1:=by first|rfl|assumption|omega|(simp;done))) (.c (j:=1) rfl .n) ?_
  rintro ⟨p25,c26⟩ -
  dsimp only [aq,nq,cq]
  refine e_mv rfl<|e_p (zA rfl rfl)<|e_p (zA rfl rfl)<|e_p (zd rfl)<|e_p (zd rfl)<|zi<|ze<|zh<|za<|e_mv rfl<|e_mv rfl<|e_p (zN (z:=(((a%b):Nat):Int)) rfl (by rw [yu];rfl) yt (wu32 om))<|zKa rfl rfl (zba (enc:=fun z:Int=>[.int .u32 z]) (ok:=InK .u32) (h1:=fun _=>rfl) (h2:=fun _=>rfl) (k:=1) yj inf121 rfl dd dd dd (.c (x:=(((a%b):Nat):Int)) rfl rfl (fun _ _=>by exact zI.2 om) .n)) (fun b7 _=> ?_)
  refine zka 0 rfl .z<|zG rfl rfl (.c rfl (.c rfl .n)) ce112 (zRa (s:=false) (p:=some ⟨b7,0,none⟩) (n:=1) (cap:=1) (l:=[(((a%b):Nat):Int)]) (hn:=by first|rfl|omega|(simp;done)|(simp;omega)) (ho:=by exact hokt) (hln:=by first|rfl|omega|(simp;done)|(simp;omega))) (.c (j:=0) rfl .n) ?_
  rintro ⟨p28,c29⟩ -
  dsimp only [aq,nq,cq]
  refine e_p (zFa yo rfl ty39 rfl rfl)<|e_p (zd rfl)<|e_p (zd rfl)<|zi<|ze<|zL<|zj ?_
  exact zBa Tryz.results131 (p25,c26,p28,c29) trivial (zl rfl) (zl rfl) (by rw [hz3]) (ho:=oN) ((.c (j:=2) rfl (.e (j:=0) rfl (by rw [hz3]) .n)):SelR _ _ _)
 ·
  refine zC<|ze<|zh<|zh<|za<|e_mv rfl<|e_mv rfl<|zQ rfl rfl (.c rfl (.c rfl .n)) ce129 (zcd (a:=a) (b:=b) (p1:=p1) (c1:=c1) (p2:=p2) (c2:=c2)) (.c (j:=0) rfl (.c (j:=1) rfl .n))<|e_p (zda rfl rfl)<|zi<|ze<|zJ rfl (fun hlt=> ?_) (fun hlt=> ?_)
  ·
   have hab9:¬(b:Int)≤a:=fun h=>by have:=Big.cmp_ge.2 h;omega
   have hab:a<b:=by omega
   refine zh<|za<|zKa rfl rfl (zva (rI .u32) yj inf121) (fun b10 _=> ?_)
   refine e_mv rfl<|e_p (zd rfl)<|e_p (zd rfl)<|zi<|ze<|zL<|zj ?_
   have hz1:a / b=0:=Nat.div_eq_of_lt hab
   have hz2:a%b=a:=Nat.mod_eq_of_lt hab
   refine zVb 0 rfl .z ?_
   exact zBa Tryz.results131 (some ⟨b10,0,none⟩,0,p1,c1) trivial (zl rfl) (zl rfl) (by rw [hz1,hz2];rfl) (ho:=oN) ((.e (j:=0) rfl (by rw [hz1];rfl) (.e (j:=1) rfl (by rw [hz2]) .n)):SelR _ _ _)
  ·
   have hab:b≤a:=by have h9:=Big.cmp_ge.1 (by omega:0≤Big.cmp (a:Int) (b:Int));omega
   have hab2:=yy hab
   have hq1:0≤1000000000 / ((yd b).getD ((yd b).length - 1) 0+1):=Int.ediv_nonneg om om
   have hdt:=Big.digs_top (b:=b) (n:=(yd b).length - 1) om
   have hq2:1000000000 / ((yd b).getD ((yd b).length - 1) 0+1)≤500000000:=Int.ediv_le_of_le_mul om om
   refine zC<|ze<|zh<|za<|e_mv rfl<|e_mv rfl<|e_p (zna (z:=((((yd b).length - 1):Nat):Int)) rfl rfl (w64 om))<|zX (x0:=((yd b).getD ((yd b).length - 1) 0)) 1 ((yd b).length - 1) rfl yj sz121 rfl rfl rfl (by first|rfl|assumption|(simp;done)|(simp;omega)|omega) rfl rfl (gD (d:=0) om) (fun b11 o12 hok13=> ?_)
   replace hok13:=zI.1 hok13
   refine e_ru (zB (j:=0) 0 ty121 rfl rfl rfl rfl)<|e_p (zN (z:=((yd b).getD ((yd b).length - 1) 0)) rfl (by rw [yt];rfl) yu (wu64 om))<|e_p (zO (z:=(((yd b).getD ((yd b).length - 1) 0)+1)) rfl rfl (wu64 om))<|e_p (zmb (z:=(1000000000 / (((yd b).getD ((yd b).length - 1) 0)+1))) rfl rfl om (by rw [quoN (z:=(1000000000 / (((yd b).getD ((yd b).length - 1) 0)+1))) om om];exact wu64 om))<|e_p (zd rfl)<|zi<|ze<|zh ?_
   obtain ⟨s,hs⟩:∃s:Nat,s=(1000000000 / ((yd b).getD ((yd b).length - 1) 0+1)).toNat:=⟨_,rfl⟩
   obtain ⟨hs1,hs2,hs3⟩:=Big.scale_len (n:=(yd b).length - 1) om hs
   have hsd:=Big.digs_one hs1 (by omega:s<1000000000)
   have hsl:(yd s).length=1:=by rw [hsd];rfl
   have e14:((1000000000 / (((yd b).getD ((yd b).length - 1) 0)+1)):Int)=((s:Nat):Int):=by omega
   rw [e14]
   refine za<|e_mv rfl<|e_mv rfl<|zG rfl rfl (.c rfl (.c rfl .n)) ce145 (zdc (a:=a) (d:=s) (p0:=p1) (cap:=c1) (hb:=by first|rfl|assumption|omega|(simp;done)) (hd:=by first|rfl|assumption|omega|(simp;done))) (.c (j:=1) rfl .n) ?_
   rintro ⟨p315,c316⟩ -
   dsimp only [aq,nq,cq]
   refine e_mv rfl<|e_mv rfl<|zG rfl rfl (.c rfl (.c rfl .n)) ce145 (zdc (a:=b) (d:=s) (p0:=p2) (cap:=c2) (hb:=by first|rfl|assumption|omega|(simp;done)) (hd:=by first|rfl|assumption|omega|(simp;done))) (.c (j:=3) rfl .n) ?_
   rintro ⟨p317,c318⟩ -
   dsimp only [aq,nq,cq]
   refine e_p (zd rfl)<|e_p (zd rfl)<|zi<|ze<|zh ?_
   obtain ⟨A,hA⟩:∃z,z=a*s:=⟨_,rfl⟩
   rw [← hA]
   obtain ⟨V,hV⟩:∃z,z=b*s:=⟨_,rfl⟩
   rw [← hV]
   refine zea 1 rfl (fun hcA=> ?_)
   have hAl:(yd a).length≤(yd A).length:=by rw [hA];exact Big.len_mul_ge hs1
   have hAl2:(yd A).length≤(yd a).length+1:=by have h8:=Big.len_mul_le a s;rw [hsl] at h8;rw [hA];exact h8
   obtain ⟨m,hm⟩:∃z,(yd V).length=z+1:=⟨(yd b).length - 1,by rw [hV,hs3]⟩
   have hmb:(yd b).length=m+1:=by rw [hV,hs3] at hm;omega
   have e19:((((yd b).length:Nat):Int):Int)=(((m+1):Nat):Int):=by omega
   rw [e19]
   refine za<|e_mv rfl<|e_mv rfl<|e_p (zR yj rfl)<|e_mv rfl<|e_p (zna (z:=((((yd A).length - (m+1)):Nat):Int)) rfl rfl (w64 om))<|e_p (zO (z:=((((yd A).length - m):Nat):Int)) rfl rfl (w64 om))<|e_p (zCe (lo:=((yd A).length - m)) (hi:=(yd A).length) yj sz121 rfl (.s rfl) .n (.inr ⟨_,rfl⟩) (.inl ⟨rfl,rfl⟩) om om)<|zCc (zQf 1 rfl ((yd A).length - m) ((yd A).length) om om) (fun _ _=> ?_)
   refine zG rfl rfl (.c rfl (.c rfl .n)) ce112 (zRa (s:=false) (p:=(newP p315 c316 ((yd A).length - m) 1)) (n:=((yd A).length) - ((yd A).length - m)) (cap:=(c316 - ((yd A).length - m))) (l:=(((yd A).take ((yd A).length)).drop ((yd A).length - m))) (hn:=by first|rfl|omega|(simp;done)|(simp;omega)) (ho:=by exact Big.okL_drop (Big.okL_take (yH _) _) _) (hln:=by first|rfl|omega|(simp;done)|(simp;omega))) (.c (j:=0) rfl .n) ?_
   rintro ⟨p220,c221⟩ -
   dsimp only [aq,nq,cq]
   refine e_p (zFa yo rfl ty39 rfl rfl)<|e_p (zd rfl)<|zi<|ze<|zh ?_
   obtain ⟨R0,hR0⟩:∃z,z=(yL false (Big.valL (((yd A).take ((yd A).length)).drop ((yd A).length - m)))).natAbs:=⟨_,rfl⟩
   rw [← hR0]
   have hpt:Big.PtI A V ((yd A).length - m) [] R0:=Big.PtI.start hm om (by rw [hR0,List.take_length];have:=Big.valL_nonneg (Big.okL_drop (yH A) ((yd A).length - m));simp only [yL];omega)
   refine za<|e_mv rfl<|e_p (zR yj rfl)<|e_mv rfl<|e_p (zna (z:=((((yd A).length - (m+1)):Nat):Int)) rfl rfl (w64 om))<|e_p (zO (z:=((((yd A).length - m):Nat):Int)) rfl rfl (w64 om))<|zKa rfl rfl (zyb (r:=rI .u32) (k:=((yd A).length - m)) (x0:=0) (γ0:=()) yj inf121 rfl rfl rfl rfl om om rfl (fun g _=>by exact zI.2 dd) dd) (fun b22 _=> ?_)
   refine e_p (zd rfl)<|zi<|ze<|zh<|zh<|za<|e_mv rfl<|e_p (zR yj rfl)<|e_mv rfl<|e_p (zna (z:=((((yd A).length:Nat):Int) - (((m+1):Nat):Int))) rfl rfl (w64 om))<|e_p (zd rfl)<|zi<|ze<|zE<|zra (X:=Nat×(List Int)×Nat×(Option Addr)×Nat) (fun x:Nat×(List Int)×Nat×(Option Addr)×Nat=>Big.PtI A V x.1 x.2.1 x.2.2.1∧x.1+x.2.1.length=(yd A).length - m) (fun x=>[(10,.slice (x.2.2.2.1) ((yd (x.2.2.1)).length) (x.2.2.2.2)),(12,ya yb (((x.1:Nat):Int) - 1)),(11,.slice (some ⟨b22,0,none⟩) ((yd A).length - m) ((yd A).length - m)),(1,.slice p317 ((yd V).length) c318),(0,.slice p315 ((yd A).length) c316),(9,.int .u64 ((s:Nat):Int)),(6,ya yb (((m+1):Nat):Int)),(5,.slice none 0 0),(4,.slice none 0 0)]) (fun x=>[rowA 121 (rI .u32) (some ⟨b22,0,none⟩) ((yd A).length - m) (List.replicate x.1 0++x.2.1)]) (fun x=>[slF (rI .u32) (x.2.2.2.1) (x.2.2.2.2) (yd (x.2.2.1)),slF (rI .u32) p220 c221 (yd R0),slF (rI .u32) (newP p315 c316 ((yd A).length - m) 1) (c316 - ((yd A).length - m)) (((yd A).take ((yd A).length)).drop ((yd A).length - m)),slF (rI .u32) p317 c318 (yd V),slF (rI .u32) p315 c316 (yd A),atF b11 o12 [.int .u32 ((yd b).getD ((yd b).length - 1) 0)],slF (rI .u32) p1 c1 (yd a),slF (rI .u32) p2 c2 (yd b)]) (fun x:Nat×(List Int)×Nat×(Option Addr)×Nat=>x.1) (((yd A).length - m),([]:List Int),R0,p220,c221) (show Big.PtI A V ((yd A).length - m) ([]:List Int) R0∧((yd A).length - m)+([]:List Int).length=(yd A).length - m from by exact ⟨hpt,rfl⟩) ((.e rfl cgs (.e rfl (congrArg (Value.int .i64) om) (.of rfl))):SubM _ _) (ho:=((.e (i:=0) rfl (by simp) .n):PickO _ _ _)) ((.e (j:=0) rfl (by first|rfl|simp_all) (.of [0,1,2,3,4,5,6] rfl)):SelR _ _ _) ?_
   rintro ⟨jj,qs,R,pr,cr⟩ hI
   replace hI:Big.PtI A V jj qs R∧jj+qs.length=(yd A).length - m:=hI
   try dsimp only
   obtain ⟨hP,hql⟩:=hI
   refine zh<|zh<|za<|e_mv rfl<|e_p (zNa rfl rfl)<|zi<|ze<|zJ rfl (fun hj=> ?_) (fun hj=> ?_)
   ·
    obtain ⟨j,rfl⟩:∃j,jj=j+1:=⟨jj - 1,by omega⟩
    have e23:(((((j+1):Nat):Int) - 1):Int)=((j:Nat):Int):=by omega
    rw [e23]
    have hjle:=hP.le
    have hRV:=hP.lt
    have hdn:=yI (yH A) j
    obtain ⟨d,hd⟩:∃d:Nat,(yd A).getD j 0=(d:Int):=⟨_,(Int.toNat_of_nonneg hdn.1).symm⟩
    have hd9:d<1000000000:=by omega
    have hWlt9:=Big.pt_lim hRV hd9
    have hRl:=yy (Nat.le_of_lt hRV)
    refine zC<|ze<|zh<|zE<|zh<|za<|e_mv rfl<|e_mv rfl<|e_mv rfl<|zX (x0:=((yd A).getD j 0)) 4 j rfl yj sz121 rfl rfl rfl (by first|rfl|assumption|(simp;done)|(simp;omega)|omega) rfl rfl (gD (d:=0) om) (fun b24 o25 hok26=> ?_)
    replace hok26:=zI.1 hok26
    refine e_ru (zB (j:=0) 0 ty121 rfl rfl rfl rfl) ?_
    have e27:(((yd A).getD j 0):Int)=((d:Nat):Int):=by exact hd
    rw [e27]
    refine zG rfl rfl (.c rfl (.c rfl .n)) ce146 (zSd (a:=R) (d:=d) (p0:=pr) (cap:=cr) (hb:=by first|rfl|assumption|omega|(simp;done)) (hd:=by first|rfl|assumption|omega|(simp;done))) (.c (j:=1) rfl .n) ?_
    rintro ⟨p328,c329⟩ -
    dsimp only [aq,nq,cq]
    refine e_p (zd rfl)<|zi<|ze<|zh ?_
    obtain ⟨W,hW⟩:∃z,z=(R*1000000000+d):=⟨_,rfl⟩
    rw [← hW]
    have hWlt:W<V*1000000000:=by rw [hW];exact hWlt9
    have hWl:=Big.pt_wlen hWlt hm
    have hw1:=yI (yH W) (m+1)
    have hw0:=yI (yH W) m
    have hv0:=yI (yH V) m
    have hg0:0≤(((yd W).getD (m+1) 0*1000000000+(yd W).getD m 0) / ((yd V).getD m 0+1)):=Int.ediv_nonneg om om
    have hg1:(((yd W).getD (m+1) 0*1000000000+(yd W).getD m 0) / ((yd V).getD m 0+1))≤1000000000000000000:=Int.le_trans (Int.ediv_le_self _ om) om
    refine zY (OW:=[]) (O:=[rowA 121 (rI .u32) (some ⟨b22,0,none⟩) ((yd A).length - m) (List.replicate (j+1) 0++qs)]) 100000 mixed (.then (.block (.then (.then (.block (.then .ret)))))) kr<|e_dm 0 rfl rfl rfl<|e_dm 1 rfl rfl rfl<|e_dm 4 rfl rfl rfl<|e_dm 5 rfl rfl rfl<|e_pv 6 rfl rfl (zna (z:=((m:Nat):Int)) rfl rfl (w64 om))<|e_dm 9 rfl rfl rfl<|e_dm 10 rfl rfl rfl<|e_pv 11 rfl rfl (zna (z:=((m:Nat):Int)) rfl rfl (w64 om))<|zga (x0:=((yd V).getD m 0)) 12 rfl rfl kr kr 5 m rfl yj sz121 rfl rfl rfl (by first|rfl|assumption|(simp;done)|(simp;omega)|omega) rfl rfl (gD (d:=0) om) (fun b30 o31 hok32=> ?_)
    replace hok32:=zI.1 hok32
    refine e_u 13 rfl rfl (zB (j:=0) 0 ty121 rfl rfl rfl rfl)<|e_pv 14 rfl rfl (zN (z:=((yd V).getD m 0)) rfl (by rw [yt];rfl) yu (wu64 om))<|e_pv 15 rfl rfl (zO (z:=(((yd V).getD m 0)+1)) rfl rfl (wu64 om))<|e_one 2 (zta rfl rfl rfl rfl (.c rfl (.c rfl .n)) ce143 (zfb (p:=p328) (n:=(yd W).length) (cap:=c329) (l:=yd W) (i:=(m+1)) (hn:=by first|rfl|assumption|omega|(simp;done)) (hi:=by first|rfl|assumption|omega|(simp;done))) (.c (j:=1) rfl .n) ?_)
    refine e_pv 3 rfl rfl (zEa (z:=((yd W).getD (m+1) 0*1000000000)) rfl rfl (wu64 om))<|e_one 7 (zta rfl rfl rfl rfl (.c rfl (.c rfl .n)) ce143 (zfb (p:=p328) (n:=(yd W).length) (cap:=c329) (l:=yd W) (i:=m) (hn:=by first|rfl|assumption|omega|(simp;done)) (hi:=by first|rfl|assumption|omega|(simp;done))) (.c (j:=1) rfl .n) ?_)
    refine e_pv 8 rfl rfl (zO (z:=(((yd W).getD (m+1) 0*1000000000)+(yd W).getD m 0)) rfl rfl (wu64 om))<|e_pv 16 rfl rfl (zmb (z:=((((yd W).getD (m+1) 0*1000000000)+(yd W).getD m 0) / (((yd V).getD m 0)+1))) rfl rfl om (by rw [quoN (z:=((((yd W).getD (m+1) 0*1000000000)+(yd W).getD m 0) / (((yd V).getD m 0)+1))) om om];exact wu64 om))<|e_pv 17 rfl rfl (zd rfl)<|zW kr<|ze<|zh ?_
    obtain ⟨g0,hg9⟩:∃g:Nat,(g:Int)=(((yd W).getD (m+1) 0*1000000000+(yd W).getD m 0) / ((yd V).getD m 0+1)):=⟨_,Int.toNat_of_nonneg hg0⟩
    obtain ⟨hgm,hgl⟩:=Big.pt_guess hWlt hm hg9
    have hVg:=yy hgm
    have e33:(((((yd W).getD (m+1) 0*1000000000)+(yd W).getD m 0) / (((yd V).getD m 0)+1)):Int)=((g0:Nat):Int):=by exact hg9.symm
    rw [e33]
    refine za<|e_mv rfl<|e_mv rfl<|e_mv rfl<|zG rfl rfl (.c rfl (.c rfl .n)) ce145 (zdc (a:=V) (d:=g0) (p0:=p317) (cap:=c318) (hb:=by first|rfl|assumption|omega|(simp;done)) (hd:=by first|rfl|assumption|omega|(simp;done))) (.c (j:=6) rfl .n) ?_
    rintro ⟨p334,c335⟩ -
    dsimp only [aq,nq,cq]
    refine zG rfl rfl (.c rfl (.c rfl .n)) ce130 (zXb (a:=W) (b:=V*g0) (p1:=p328) (c1:=c329) (p2:=p334) (c2:=c335) (hb1:=by first|rfl|assumption|omega|(simp;done)) (hb2:=by first|rfl|assumption|omega|(simp;done)) (hab:=by first|rfl|assumption|omega|(simp;done))) (.c (j:=2) rfl (.c (j:=0) rfl .n)) ?_
    rintro ⟨p336,c337⟩ -
    dsimp only [aq,nq,cq]
    refine e_p (zd rfl)<|zi<|ze<|zh<|zE<|zra (X:=Nat×Nat×(Option Addr)×Nat) (fun x:Nat×Nat×(Option Addr)×Nat=>x.2.1+V*x.1=W) (fun x=>[(10,.slice (x.2.2.1) ((yd (x.2.1)).length) (x.2.2.2)),(13,.int .u64 ((x.1:Nat):Int)),(12,ya yb ((j:Nat):Int)),(11,.slice (some ⟨b22,0,none⟩) ((yd A).length - m) ((yd A).length - m)),(1,.slice p317 ((yd V).length) c318),(0,.slice p315 ((yd A).length) c316),(9,.int .u64 ((s:Nat):Int)),(6,ya yb (((m+1):Nat):Int)),(5,.slice none 0 0),(4,.slice none 0 0)]) (fun x=>[rowA 121 (rI .u32) (some ⟨b22,0,none⟩) ((yd A).length - m) (List.replicate (j+1) 0++qs)]) (fun x=>[slF (rI .u32) (x.2.2.1) (x.2.2.2) (yd (x.2.1)),slF (rI .u32) p336 c337 (yd (W - (V*g0))),slF (rI .u32) p334 c335 (yd (V*g0)),atF b30 o31 [.int .u32 ((yd V).getD m 0)],slF (rI .u32) p328 c329 (yd W),atF b24 o25 [.int .u32 ((d:Nat):Int)],slF (rI .u32) pr cr (yd R),slF (rI .u32) p220 c221 (yd R0),slF (rI .u32) (newP p315 c316 ((yd A).length - m) 1) (c316 - ((yd A).length - m)) (((yd A).take ((yd A).length)).drop ((yd A).length - m)),slF (rI .u32) p317 c318 (yd V),slF (rI .u32) p315 c316 (yd A),atF b11 o12 [.int .u32 ((yd b).getD ((yd b).length - 1) 0)],slF (rI .u32) p1 c1 (yd a),slF (rI .u32) p2 c2 (yd b)]) (fun x:Nat×Nat×(Option Addr)×Nat=>x.2.1) (g0,(W - V*g0),p336,c337) (show (W - V*g0)+V*g0=W from by exact Nat.sub_add_cancel hgm) ((.e rfl cgs (.of rfl)):SubM _ _) (ho:=(o0 rfl)) ((.e (j:=0) rfl (by first|rfl|simp_all) (.of [0,1,2,3,4,5,6,7,8,9,10,11,12] rfl)):SelR _ _ _) ?_
    rintro ⟨g,r,p9,c9⟩ hJ
    replace hJ:r+V*g=W:=hJ
    try dsimp only
    have hgb:g<1000000000:=Nat.lt_of_mul_lt_mul_left (a:=V) om
    have hrl:=yy (show r≤W by omega)
    refine zh<|zh<|za<|e_mv rfl<|e_mv rfl<|zQ rfl rfl (.c rfl (.c rfl .n)) ce129 (zcd (a:=r) (b:=V) (p1:=p9) (c1:=c9) (p2:=p317) (c2:=c318)) (.c (j:=0) rfl (.c (j:=9) rfl .n))<|e_p (zNa rfl rfl)<|zi<|ze<|zJ rfl (fun hge=> ?_) (fun hge=> ?_)
    ·
     have hrV:V≤r:=by have h9:=Big.cmp_ge.1 hge;omega
     refine zC<|ze<|zE<|zh<|za<|e_mv rfl<|e_mv rfl<|zG rfl rfl (.c rfl (.c rfl .n)) ce130 (zXb (a:=r) (b:=V) (p1:=p9) (c1:=c9) (p2:=p317) (c2:=c318) (hb1:=by first|rfl|assumption|omega|(simp;done)) (hb2:=by first|rfl|assumption|omega|(simp;done)) (hab:=by first|rfl|assumption|omega|(simp;done))) (.c (j:=0) rfl (.c (j:=9) rfl .n)) ?_
     rintro ⟨p338,c339⟩ -
     dsimp only [aq,nq,cq]
     refine e_p (zd rfl)<|zi<|ze<|za<|e_mv rfl<|e_p (zO (z:=(((g+1):Nat):Int)) rfl rfl (wu64 om))<|e_p (zd rfl)<|zi<|zT<|zla ((g+1),(r - V),p338,c339) (show (r - V)+V*(g+1)=W from by rw [Nat.mul_succ];omega) (by show r - V<r;omega) ((.e rfl cgs (.of rfl)):SubM _ _) (ho:=(o0 rfl)) ((.e (j:=0) rfl (by first|rfl|simp_all) (.of [2,3,4,5,6,7,8,9,10,11,12,13,14] rfl)):SelR _ _ _)
    ·
     have hrV:r<V:=by have h9:¬(V:Int)≤r:=fun h=>hge (Big.cmp_ge.2 h);omega
     have hst:=hP.step hd (by rw [← hW];exact hJ) hrV
     refine zqa<|zk<|zk<|zD<|ze<|za<|e_mv rfl<|e_mv rfl<|e_mv rfl<|e_p (zN (z:=((g:Nat):Int)) rfl (by rw [yu];rfl) yt (wu32 om))<|e_p (zoa (j:=j) yj sz121 rfl rfl rfl om)<|zQa 0 rfl rfl rfl (zia (j:=j) (x0:=((g:Nat):Int)) (γ0:=()) rfl rfl (by first|omega|(rw [List.length_map];omega)|(simp only [List.length_set];omega)|(simp;done)|(simp;omega)) rfl rfl sz121 (fun _ _=>by exact zI.2 om)) (fun _=> .z) (fun _ _=> ?_)
     refine zi<|zT<|ze<|za<|e_mv rfl<|e_p (zna (z:=(((j:Nat):Int) - 1)) rfl rfl (w64 om))<|e_p (zd rfl)<|zi<|zla (j,(((g:Nat):Int) :: qs),r,p9,c9) (show Big.PtI A V j (((g:Nat):Int) :: qs) r∧j+(((g:Nat):Int) :: qs).length=(yd A).length - m from by exact ⟨hst,by rw [List.length_cons];omega⟩) (by show j<j+1;omega) (mR rfl) (ho:=((.e (i:=0) rfl (by rw [Big.pad_set]) .n):PickO _ _ _)) ((.of [0,7,8,9,10,11,12,13] rfl):SelR _ _ _)
   ·
    have hj0:jj=0:=by omega
    have hI0:Big.PtI A V 0 qs R:=hj0 ▸ hP
    obtain ⟨hf1,hf2⟩:=hI0.fin
    have hsc:=Big.scale_div (a:=a) (b:=b) hs1
    have hRV:=hI0.lt
    have hRl:=yy (Nat.le_of_lt hRV)
    have hz4:=Big.made_nat hI0.ok hf1
    have hok5:=hI0.ok
    refine zqa<|zk<|zk<|zD<|ze<|zh<|za<|e_mv rfl<|e_mv rfl<|zG rfl rfl (.c rfl (.c rfl .n)) ce144 (zmd (a:=R) (mm:=s) (p:=pr) (cap:=cr) (hb:=by first|rfl|assumption|omega|(simp;done)) (hm0:=by first|rfl|assumption|omega|(simp;done)) (hm1:=by first|rfl|assumption|omega|(simp;done))) (.c (j:=0) rfl .n) ?_
    rintro ⟨p240,c241⟩ -
    dsimp only [aq,nq,cq]
    refine e_mv rfl<|e_p (zA rfl rfl)<|e_p (zA rfl rfl)<|e_p (zd rfl)<|e_p (zd rfl)<|zi<|ze<|zh ?_
    have e42:List.replicate jj 0++qs=qs:=by rw [hj0];rfl
    rw [e42]
    refine za<|e_mv rfl<|zka 0 rfl .z<|zG rfl rfl (.c rfl (.c rfl .n)) ce112 (zRa (s:=false) (p:=some ⟨b22,0,none⟩) (n:=((yd A).length - m)) (cap:=((yd A).length - m)) (l:=qs) (hn:=by first|rfl|omega|(simp;done)|(simp;omega)) (ho:=by exact hok5) (hln:=by first|rfl|omega|(simp;done)|(simp;omega))) (.c (j:=0) rfl .n) ?_
    rintro ⟨p243,c244⟩ -
    dsimp only [aq,nq,cq]
    refine e_p (zFa yo rfl ty39 rfl rfl)<|e_mv rfl<|e_p (zd rfl)<|e_p (zd rfl)<|zi<|ze<|zL ?_
    have hr9:R / s=a%b:=by rw [hf2,hA,hV,hsc.2]
    have hz5:(yL false (Big.valL qs)).natAbs=a / b:=by rw [hz4,hA,hV,hsc.1]
    exact zBa Tryz.results131 (p243,c244,p240,c241) trivial (zl rfl) (zl rfl) (by rw [hz5,hr9]) (ho:=oN) ((.e (j:=0) rfl (by rw [hz5]) (.e (j:=2) rfl (by rw [hr9]) .n)):SelR _ _ _)
end Go.Proofs.YtjcpbhlijoigfaaGreat.Sp
namespace Go.Proofs.YtjcpbhlijoigfaaGreat.Sp
open Go
set_option linter.unusedVariables false
set_option maxRecDepth 100000
set_option maxHeartbeats 8000000
theorem zOe {s:Bool} {p1:Option Addr} {n1:Nat} {c1:Nat} {l1:List Int} {t:Bool} {p2:Option Addr} {n2:Nat} {c2:Nat} {l2:List Int} (hn1:l1.length=n1) (hn2:l2.length=n2) (hm1:n1≤2199023255552) (hm2:n2≤2199023255552):Con yk 109 [.agg #[.bool s,.slice p1 n1 c1],.agg #[.bool t,.slice p2 n2 c2]] [] [slF (rI .u32) p1 c1 l1,slF (rI .u32) p2 c2 l2] (Y:=(Option Addr)×Nat) (fun y=>True) (fun y=> .agg #[.bool (decide (((Nat.gcd (yn s l1).natAbs (yn t l2).natAbs:Nat):Int)<0)),.slice (y.1) ((yd (((Nat.gcd (yn s l1).natAbs (yn t l2).natAbs:Nat):Int).natAbs)).length) (y.2)]) (fun y=>[]) (fun y=>[slF (rI .u32) (y.1) (y.2) (yd (((Nat.gcd (yn s l1).natAbs (yn t l2).natAbs:Nat):Int).natAbs))]):=by
 refine zo Tryz.func109 rfl rfl rfl (fun c=> ?_)
 show RunC _ _ _ _ _ [(0,.agg #[.bool s,.slice p1 n1 c1]),(1,.agg #[.bool t,.slice p2 n2 c2])] [] [slF (rI .u32) p1 c1 l1,slF (rI .u32) p2 c2 l2]
 refine zea 0 rfl (fun hL0=> ?_)
 refine zZa 0 rfl (fun hE0=> ?_)
 refine zea 1 rfl (fun hL1=> ?_)
 refine zZa 1 rfl (fun hE1=> ?_)
 have hnn1:Big.nn l1:=fun g hg=>(zI.1 (hE0 g hg)).1
 have hnn2:Big.nn l2:=fun g hg=>(zI.1 (hE1 g hg)).1
 have hb1:ym (yn s l1)≤n1:=by have:=yP (s:=s) hnn1;omega
 have hb2:ym (yn t l2)≤n2:=by have:=yP (s:=t) hnn2;omega
 unfold ym at hb1 hb2
 refine zh<|za<|zP rfl rfl (zS rfl rfl) (fun b1=> ?_)
 refine zP rfl rfl (zS rfl rfl) (fun b2=> ?_)
 refine zP rfl rfl (zn zr41 rfl) (fun b3=> ?_)
 refine zi<|ze<|zh<|zY (OW:=[]) (O:=[boxA b3 41 [wz.b,wz.l],boxA b2 41 [.bool t,.slice p2 n2 c2],boxA b1 41 [.bool s,.slice p1 n1 c1]]) 100000 mixed (.then .ret) kr<|e_u 0 rfl rfl (zb 2 ty41 rfl rfl (.t2 .nil))<|e_u 3 rfl rfl (zb 1 ty41 rfl rfl (.t2 .nil))<|e_one 1 (zq rfl rfl rfl rfl (.c rfl .n) ce111 (zVa (s:=s) (p:=p1) (n:=n1) (cap:=c1) (l:=l1) (hn:=ass) (hln:=cbo)) (.c (j:=0) rfl .n) ?_)
 rintro ⟨p24,c25⟩ -
 dsimp only [aq,nq,cq]
 refine e_pv 2 rfl rfl (zFa yo rfl ty39 rfl rfl)<|e_one 4 (zq rfl rfl rfl rfl (.c rfl .n) ce111 (zVa (s:=t) (p:=p2) (n:=n2) (cap:=c2) (l:=l2) (hn:=ass) (hln:=cbo)) (.c (j:=2) rfl .n) ?_)
 rintro ⟨p26,c27⟩ -
 dsimp only [aq,nq,cq]
 refine e_pv 5 rfl rfl (zFa yo rfl ty39 rfl rfl)<|e_pv 6 rfl rfl (zd rfl)<|e_pv 7 rfl rfl (zd rfl)<|zW kr<|ze<|zh<|zE<|zra (X:=Nat×Nat×(Option Addr)×Nat×(Option Addr)×Nat) (fun x:Nat×Nat×(Option Addr)×Nat×(Option Addr)×Nat=>Nat.gcd x.1 x.2.1=Nat.gcd (yn s l1).natAbs (yn t l2).natAbs∧(yd x.1).length≤2199023255552∧(yd x.2.1).length≤2199023255552) (fun x=>[(6,.slice (x.2.2.2.2.1) ((yd (x.2.1)).length) (x.2.2.2.2.2)),(5,.slice (x.2.2.1) ((yd (x.1)).length) (x.2.2.2.1)),(4,yc (some ⟨b3,0,none⟩))]) (fun x=>[boxA b3 41 [wz.b,wz.l],boxA b2 41 [.bool t,.slice p2 n2 c2],boxA b1 41 [.bool s,.slice p1 n1 c1]]) (fun x=>[slF (rI .u32) (x.2.2.1) (x.2.2.2.1) (yd (x.1)),slF (rI .u32) (x.2.2.2.2.1) (x.2.2.2.2.2) (yd (x.2.1)),slF (rI .u32) p26 c27 (yd ((yn t l2).natAbs)),slF (rI .u32) p24 c25 (yd ((yn s l1).natAbs)),slF (rI .u32) p1 c1 l1,slF (rI .u32) p2 c2 l2]) (fun x:Nat×Nat×(Option Addr)×Nat×(Option Addr)×Nat=>x.2.1) ((yn s l1).natAbs,(yn t l2).natAbs,p24,c25,p26,c27) (show Nat.gcd ((yn s l1).natAbs) ((yn t l2).natAbs)=Nat.gcd (yn s l1).natAbs (yn t l2).natAbs∧(yd ((yn s l1).natAbs)).length≤2199023255552∧(yd ((yn t l2).natAbs)).length≤2199023255552 from by exact ⟨rfl,by omega,by omega⟩) (mR rfl) (ho:=((.of [0,0,0] rfl):PickO _ _ _)) ((.of [1,0,0,1,2,3] rfl):SelR _ _ _) ?_
 rintro ⟨a,b,pa,ca,pb,cb⟩ hI
 replace hI:Nat.gcd a b=Nat.gcd (yn s l1).natAbs (yn t l2).natAbs∧(yd a).length≤2199023255552∧(yd b).length≤2199023255552:=hI
 try dsimp only
 obtain ⟨hgc,hba,hbb⟩:=hI
 refine zh<|zGa (X:=Unit) (fun x=>True) (fun x=>[(29,.bool (decide (0<(yd b).length∧(2<(yd a).length∨2<(yd b).length)))),(6,.slice pb ((yd b).length) cb),(5,.slice pa ((yd a).length) ca),(4,yc (some ⟨b3,0,none⟩))]) (fun x=>[boxA b3 41 [wz.b,wz.l],boxA b2 41 [.bool t,.slice p2 n2 c2],boxA b1 41 [.bool s,.slice p1 n1 c1]]) (fun x=>[slF (rI .u32) pa ca (yd a),slF (rI .u32) pb cb (yd b),slF (rI .u32) p26 c27 (yd ((yn t l2).natAbs)),slF (rI .u32) p24 c25 (yd ((yn s l1).natAbs)),slF (rI .u32) p1 c1 l1,slF (rI .u32) p2 c2 l2]) ?_ ?_
 ·
  refine za<|e_mv rfl<|e_p (zR yj rfl)<|e_p (zDa rfl rfl)<|zZ rfl rfl (zaa rfl) (fun h8=> ?_) (fun h8=> ?_)
  ·
   refine e_mv rfl<|e_p (zR yj rfl)<|e_p (zDa rfl rfl)<|zZ rfl rfl (zaa rfl) (fun h9=> ?_) (fun h9=> ?_)
   ·
    refine e_no<|e_no<|e_no<|e_p (zp rfl rfl)<|e_p (zp rfl rfl)<|zi ?_
    exact zha () tt9 ((.e rfl (congrArg Value.bool (by first|(simp;omega)|exact decide_eq_decide.2 ⟨fun h=>⟨by omega,.inr om⟩,fun h=>by omega⟩)) (.of rfl)):SubM _ _) (ho:=((.of [0,0,0] rfl):PickO _ _ _)) ((.of [0,1,2,3,4,5] rfl):SelR _ _ _)
   ·
    refine e_mv rfl<|e_p (zR yj rfl)<|e_p (zDa rfl rfl)<|e_p (zp rfl rfl)<|e_p (zp rfl rfl)<|zi ?_
    exact zha () tt9 ((.e rfl (congrArg Value.bool (by first|(simp;omega)|exact decide_eq_decide.2 ⟨fun h=>⟨by omega,.inr om⟩,fun h=>by omega⟩)) (.of rfl)):SubM _ _) (ho:=((.of [0,0,0] rfl):PickO _ _ _)) ((.of [0,1,2,3,4,5] rfl):SelR _ _ _)
  ·
   refine e_no<|e_no<|e_no<|e_no<|e_no<|e_no<|e_no<|e_no<|e_p (zp rfl rfl)<|zi ?_
   exact zha () tt9 ((.e rfl (congrArg Value.bool (by first|(simp;omega)|exact decide_eq_decide.2 ⟨fun h=>⟨by omega,.inr om⟩,fun h=>by omega⟩)) (.of rfl)):SubM _ _) (ho:=((.of [0,0,0] rfl):PickO _ _ _)) ((.of [0,1,2,3,4,5] rfl):SelR _ _ _)
 ·
  rintro ⟨⟩ -
  try dsimp only
  refine zJ rfl (fun hw=> ?_) (fun hw=> ?_)
  ·
   have hb0:0<b:=Nat.pos_of_ne_zero (fun e=>by rw [e] at hw;simp [Big.digs_zero] at hw)
   refine zC<|ze<|zE<|zh<|za<|e_mv rfl<|e_mv rfl<|zG rfl rfl (.c rfl (.c rfl .n)) ce131 (znd (a:=a) (b:=b) (p1:=pa) (c1:=ca) (p2:=pb) (c2:=cb) (hb1:=cbo) (hb2:=cbo) (hb0:=cbo)) (.c (j:=0) rfl (.c (j:=1) rfl .n)) ?_
   rintro ⟨p310,c311,p412,c413⟩ -
   dsimp only [aq,nq,cq]
   refine e_mv rfl<|e_p (zA rfl rfl)<|e_p (zA rfl rfl)<|e_p (zd rfl)<|e_p (zd rfl)<|zi<|ze<|za<|e_mv rfl<|e_mv rfl<|e_p (zd rfl)<|e_p (zd rfl)<|zi<|zT<|zla (b,(a%b),pb,cb,p412,c413) (show Nat.gcd b (a%b)=Nat.gcd (yn s l1).natAbs (yn t l2).natAbs∧(yd b).length≤2199023255552∧(yd (a%b)).length≤2199023255552 from by exact ⟨by rw [Big.gcd_rest,hgc],hbb,Nat.le_trans (yy (Nat.le_of_lt (Nat.mod_lt a hb0))) hbb⟩) (by exact Nat.mod_lt a hb0) ((.e rfl cgs (.c rfl (.c rfl .n))):SubM _ _) (ho:=((.of [0,0,0] rfl):PickO _ _ _)) ((.c (j:=3) rfl (.e (j:=1) rfl (by first|rfl|simp_all) (.of [4,5,6,7] rfl))):SelR _ _ _)
  ·
   refine zqa<|zk<|zk<|zD<|ze<|zh<|zh<|za<|e_mv rfl<|e_p (zR yj rfl)<|e_p (zxa rfl rfl)<|zi<|ze<|zJ rfl (fun hbz=> ?_) (fun hbz=> ?_)
   ·
    have hbz0:b=0:=yM.1 om
    have hfin:a=Nat.gcd (yn s l1).natAbs (yn t l2).natAbs:=by rw [← hgc,hbz0,Nat.gcd_zero_right]
    refine zh<|za<|e_mv rfl<|zG rfl rfl (.c rfl (.c rfl .n)) ce112 (zrb (s:=false) (a:=a) (p:=pa) (cap:=ca) (hln:=cbo)) (.c (j:=0) rfl .n) ?_
    rintro ⟨p214,c215⟩ -
    dsimp only [aq,nq,cq]
    refine zm 0 rfl rfl rfl rfl rfl sz41 rfl (.t2 .nil) .z<|zi<|ze<|zL<|zj ?_
    exact zx Tryz.results109 (p214,c215) trivial (zv 0 ty41 rfl rfl (.t2 .nil)) (by rw [← hfin];rfl) (ho:=oN) ((.e (j:=0) rfl (by rw [← hfin];rfl) .n):SelR _ _ _)
   ·
    have ha2:(yd a).length≤2:=by omega
    have hb2:(yd b).length≤2:=by omega
    have ha18:=Big.two_lt ha2
    have hb18:=Big.two_lt hb2
    refine zC<|ze<|zh<|za<|e_mv rfl<|zQ rfl rfl (.c rfl .n) ce132 (zTd (a:=a) (p:=pa) (cap:=ca) (hb:=cbo)) (.c (j:=0) rfl .n)<|e_mv rfl<|zQ rfl rfl (.c rfl .n) ce132 (zTd (a:=b) (p:=pb) (cap:=cb) (hb:=cbo)) (.c (j:=1) rfl .n)<|e_p (zd rfl)<|e_p (zd rfl)<|zi<|ze<|zh<|zE<|zra (X:=Nat×Nat) (fun x:Nat×Nat=>Nat.gcd x.1 x.2=Nat.gcd a b∧x.1<1000000000000000000∧x.2<1000000000000000000) (fun x=>[(10,.int .u64 ((x.2:Nat):Int)),(9,.int .u64 ((x.1:Nat):Int)),(4,yc (some ⟨b3,0,none⟩))]) (fun x=>[boxA b3 41 [wz.b,wz.l],boxA b2 41 [.bool t,.slice p2 n2 c2],boxA b1 41 [.bool s,.slice p1 n1 c1]]) (fun x=>[slF (rI .u32) pa ca (yd a),slF (rI .u32) pb cb (yd b),slF (rI .u32) p26 c27 (yd ((yn t l2).natAbs)),slF (rI .u32) p24 c25 (yd ((yn s l1).natAbs)),slF (rI .u32) p1 c1 l1,slF (rI .u32) p2 c2 l2]) (fun x:Nat×Nat=>x.2) (a,b) (show Nat.gcd a b=Nat.gcd a b∧a<1000000000000000000∧b<1000000000000000000 from by exact ⟨rfl,ha18,hb18⟩) (mR rfl) (ho:=((.of [0,0,0] rfl):PickO _ _ _)) ((.of [0,1,2,3,4,5] rfl):SelR _ _ _) ?_
    rintro ⟨q,r⟩ hJ
    replace hJ:Nat.gcd q r=Nat.gcd a b∧q<1000000000000000000∧r<1000000000000000000:=hJ
    try dsimp only
    obtain ⟨hgq,hq18,hr18⟩:=hJ
    have hmr:=Nat.mod_le q r
    refine zh<|zh<|za<|e_mv rfl<|e_p (zDa rfl rfl)<|zi<|ze<|zJ rfl (fun hy=> ?_) (fun hy=> ?_)
    ·
     refine zC<|ze<|zE<|zY (OW:=[]) (O:=[boxA b3 41 [wz.b,wz.l],boxA b2 41 [.bool t,.slice p2 n2 c2],boxA b1 41 [.bool s,.slice p1 n1 c1]]) 100000 mixed (.block (.then (.block (.then .ret)))) kr<|e_dm 0 rfl rfl rfl<|e_dm 1 rfl rfl rfl<|e_dm 2 rfl rfl rfl<|e_pv 3 rfl rfl (zza (z:=(((q%r):Nat):Int)) rfl rfl om (remN om om))<|e_pv 4 rfl rfl (zd rfl)<|e_pv 5 rfl rfl (zd rfl)<|zW kr<|zT<|zla (r,(q%r)) (show Nat.gcd r (q%r)=Nat.gcd a b∧r<1000000000000000000∧(q%r)<1000000000000000000 from by exact ⟨by rw [Big.gcd_rest,hgq],hr18,by omega⟩) (by exact Nat.mod_lt q om) (mR rfl) (ho:=((.of [0,0,0] rfl):PickO _ _ _)) ((.of [0,1,2,3,4,5] rfl):SelR _ _ _)
    ·
     have hrz:r=0:=by omega
     have hfin:q=Nat.gcd (yn s l1).natAbs (yn t l2).natAbs:=by rw [← hgc,←hgq,hrz,Nat.gcd_zero_right]
     obtain ⟨ht1,ht2⟩:=Big.two_val hq18
     refine zqa<|zk<|zk<|zD<|ze<|zh<|za<|e_mv rfl<|e_p (zza (z:=(((q%1000000000):Nat):Int)) rfl rfl om (remN om om))<|e_p (zN (z:=(((q%1000000000):Nat):Int)) rfl (by rw [yu];rfl) yt (wu32 om))<|e_mv rfl<|e_p (zmb (z:=(((q / 1000000000):Nat):Int)) rfl rfl om (by rw [quoN (z:=(((q / 1000000000):Nat):Int)) om om];exact wu64 om))<|e_p (zN (z:=(((q / 1000000000):Nat):Int)) rfl (by rw [yu];rfl) yt (wu32 om))<|zKa rfl rfl (zba (enc:=fun z:Int=>[.int .u32 z]) (ok:=InK .u32) (h1:=fun _=>rfl) (h2:=fun _=>rfl) (k:=2) yj inf121 rfl dd dd dd (.c (x:=(((q%1000000000):Nat):Int)) rfl rfl (fun _ _=>by exact zI.2 om) (.c (x:=(((q / 1000000000):Nat):Int)) rfl rfl (fun _ _=>by exact zI.2 om) .n))) (fun b16 _=> ?_)
     refine zka 0 rfl .z<|zG rfl rfl (.c rfl (.c rfl .n)) ce112 (zRa (s:=false) (p:=some ⟨b16,0,none⟩) (n:=2) (cap:=2) (l:=[(((q%1000000000):Nat):Int),(((q / 1000000000):Nat):Int)]) (hn:=by first|rfl|omega|(simp;done)|(simp;omega)) (ho:=by exact ht1) (hln:=by first|rfl|omega|(simp;done)|(simp;omega))) (.c (j:=0) rfl .n) ?_
     rintro ⟨p217,c218⟩ -
     dsimp only [aq,nq,cq]
     refine zm 1 rfl rfl rfl rfl rfl sz41 rfl (.t2 .nil) (.s .z)<|zi<|ze<|zL ?_
     exact zx Tryz.results109 (p217,c218) trivial (zv 1 ty41 rfl rfl (.t2 .nil)) (by rw [ht2,←hfin];rfl) (ho:=oN) ((.e (j:=0) rfl (by rw [ht2,←hfin];rfl) .n):SelR _ _ _)
theorem zKf {x1:Int} {x2:Int} {p1:Option Addr} {c1:Nat} {p2:Option Addr} {c2:Nat} (hb1:ym x1≤2199023255552) (hb2:ym x2≤2199023255552):Con yk 109 [.agg #[.bool (decide ((x1)<0)),.slice (p1) ((yd ((x1).natAbs)).length) (c1)],.agg #[.bool (decide ((x2)<0)),.slice (p2) ((yd ((x2).natAbs)).length) (c2)]] [] [slF (rI .u32) (p1) (c1) (yd ((x1).natAbs)),slF (rI .u32) (p2) (c2) (yd ((x2).natAbs))] (Y:=(Option Addr)×(Nat)) (fun y=>True) (fun y=> .agg #[.bool (decide ((((Nat.gcd x1.natAbs x2.natAbs:Nat):Int))<0)),.slice (y.1) ((yd ((((Nat.gcd x1.natAbs x2.natAbs:Nat):Int)).natAbs)).length) (y.2)]) (fun y=>[]) (fun y=>[slF (rI .u32) (y.1) (y.2) (yd ((((Nat.gcd x1.natAbs x2.natAbs:Nat):Int)).natAbs))]):=by
  have h:= @zOe (decide ((x1)<0)) p1 (yd (x1).natAbs).length c1 (yd (x1).natAbs) (decide ((x2)<0)) p2 (yd (x2).natAbs).length c2 (yd (x2).natAbs) rfl rfl hb1 hb2
  rw [Big.raw_big,Big.raw_big] at h
  exact h
theorem zLf {w1:Wd} {w2:Wd} {x1:Int} {x2:Int} (hb1:ym x1≤2199023255552) (hb2:ym x2≤2199023255552):Con yk 109 [.agg #[w1.b,w1.l],.agg #[w2.b,w2.l]] [] [zF w1 (x1),zF w2 (x2)] (Y:=(Wd)) (fun y=>True) (fun y=> .agg #[y.b,y.l]) (fun y=>[]) (fun y=>[zF y (((Nat.gcd x1.natAbs x2.natAbs:Nat):Int))]):=by
  exact zZb (zHc (fun p1 c1 p2 c2=>zKf hb1 hb2))
theorem zUd {s:Bool} {p1:Option Addr} {n1:Nat} {c1:Nat} {l1:List Int} {t:Bool} {p2:Option Addr} {n2:Nat} {c2:Nat} {l2:List Int} (hn1:l1.length=n1) (hn2:l2.length=n2) (hm1:n1≤2199023255552) (hm2:n2≤2199023255552):Con yk 123 [.agg #[.bool s,.slice p1 n1 c1],.agg #[.bool t,.slice p2 n2 c2]] [] [slF (rI .u32) p1 c1 l1,slF (rI .u32) p2 c2 l2] (Y:=Unit) (fun y=>True) (fun y=> ya yb ((yn s l1 - yn t l2).sign)) (fun y=>[]) (fun y=>[]):=by
 refine zo Tryz.func123 rfl rfl rfl (fun c=> ?_)
 show RunC _ _ _ _ _ [(0,.agg #[.bool s,.slice p1 n1 c1]),(1,.agg #[.bool t,.slice p2 n2 c2])] [] [slF (rI .u32) p1 c1 l1,slF (rI .u32) p2 c2 l2]
 refine zea 0 rfl (fun hL0=> ?_)
 refine zZa 0 rfl (fun hE0=> ?_)
 refine zea 1 rfl (fun hL1=> ?_)
 refine zZa 1 rfl (fun hE1=> ?_)
 have hnn1:Big.nn l1:=fun g hg=>(zI.1 (hE0 g hg)).1
 have hnn2:Big.nn l2:=fun g hg=>(zI.1 (hE1 g hg)).1
 have hb1:ym (yn s l1)≤n1:=by have:=yP (s:=s) hnn1;omega
 have hb2:ym (yn t l2)≤n2:=by have:=yP (s:=t) hnn2;omega
 unfold ym at hb1 hb2
 have hls:=Big.ln_sub (yn s l1) (yn t l2)
 unfold ym at hls
 refine zh<|za<|zP rfl rfl (zS rfl rfl) (fun b1=> ?_)
 refine zP rfl rfl (zS rfl rfl) (fun b2=> ?_)
 refine e_p (zd rfl)<|zi<|ze<|zh<|za<|e_ru (zb 1 ty41 rfl rfl (.t2 .nil))<|e_ru (zb 0 ty41 rfl rfl (.t2 .nil))<|zG rfl rfl (.c rfl (.c rfl .n)) ce133 (zNe (s:=s) (p1:=p1) (n1:=n1) (c1:=c1) (l1:=l1) (t:=t) (p2:=p2) (n2:=n2) (c2:=c2) (l2:=l2) (hn1:=ass) (hn2:=ass) (hm1:=by first|rfl|assumption|omega|(unfold ym;omega)) (hm2:=by first|rfl|assumption|omega|(unfold ym;omega))) (.c (j:=0) rfl (.c (j:=1) rfl .n)) ?_
 rintro ⟨p33,c34⟩ -
 dsimp only [aq,nq,cq]
 refine zQ rfl rfl (.c rfl .n) ce105 (zld (z:=yn s l1 - yn t l2) (p:=p33) (cap:=c34) (hln:=by first|rfl|assumption|omega|(unfold ym;omega))) (.c (j:=0) rfl .n)<|e_p (zd rfl)<|zi<|ze<|zL ?_
 exact zx Tryz.results123 () trivial (zl rfl) rfl (ho:=oN) sN
theorem zAd {x1:Int} {x2:Int} {p1:Option Addr} {c1:Nat} {p2:Option Addr} {c2:Nat} (hb1:ym x1≤2199023255552) (hb2:ym x2≤2199023255552):Con yk 123 [.agg #[.bool (decide ((x1)<0)),.slice (p1) ((yd ((x1).natAbs)).length) (c1)],.agg #[.bool (decide ((x2)<0)),.slice (p2) ((yd ((x2).natAbs)).length) (c2)]] [] [slF (rI .u32) (p1) (c1) (yd ((x1).natAbs)),slF (rI .u32) (p2) (c2) (yd ((x2).natAbs))] (Y:=Unit) (fun y=>True) (fun y=> ya yb ((x1 - x2).sign)) (fun y=>[]) (fun y=>[]):=by
  have h:= @zUd (decide ((x1)<0)) p1 (yd (x1).natAbs).length c1 (yd (x1).natAbs) (decide ((x2)<0)) p2 (yd (x2).natAbs).length c2 (yd (x2).natAbs) rfl rfl hb1 hb2
  rw [Big.raw_big,Big.raw_big] at h
  exact h
theorem zVd {x1:Int} {x2:Int} {p1:Option Addr} {c1:Nat} {p2:Option Addr} {c2:Nat} (hb1:ym x1≤1099511627776) (hb2:ym x2≤1099511627776) (hy:x2≠0):Con yk 110 [.agg #[.bool (decide (x1<0)),.slice p1 ((yd ((x1).natAbs)).length) c1],.agg #[.bool (decide (x2<0)),.slice p2 ((yd ((x2).natAbs)).length) c2]] [] [slF (rI .u32) p1 c1 (yd ((x1).natAbs)),slF (rI .u32) p2 c2 (yd ((x2).natAbs))] (Y:=(Option Addr)×Nat×(Option Addr)×Nat) (fun y=>True) (fun y=> .tuple #[.agg #[.bool (decide ((yA x1 x2)<0)),.slice (y.1) ((yd ((yA x1 x2).natAbs)).length) (y.2.1)],.agg #[.bool (decide ((yQ x1 x2)<0)),.slice (y.2.2.1) ((yd ((yQ x1 x2).natAbs)).length) (y.2.2.2)],ya yb 0]) (fun y=>[]) (fun y=>[slF (rI .u32) (y.1) (y.2.1) (yd ((yA x1 x2).natAbs)),slF (rI .u32) (y.2.2.1) (y.2.2.2) (yd ((yQ x1 x2).natAbs))]):=by
 refine zo Tryz.func110 rfl rfl rfl (fun c=> ?_)
 show RunC _ _ _ _ _ [(0,.agg #[.bool (decide (x1<0)),.slice p1 ((yd ((x1).natAbs)).length) c1]),(1,.agg #[.bool (decide (x2<0)),.slice p2 ((yd ((x2).natAbs)).length) c2])] [] [slF (rI .u32) p1 c1 (yd ((x1).natAbs)),slF (rI .u32) p2 c2 (yd ((x2).natAbs))]
 refine zea 0 rfl (fun hL0=> ?_)
 refine zea 1 rfl (fun hL1=> ?_)
 have hfl:=Big.ln_fq (x:=x1) hy
 have hml:=yJ (yA x1 x2) x2
 unfold ym at hb1 hb2 hfl hml
 have hd1:=Nat.div_le_self x1.natAbs x2.natAbs
 have hd2:=Nat.mod_lt x1.natAbs (show 0<x2.natAbs by omega)
 have hl1:=yy hd1
 have hl2:=yy (Nat.le_of_lt hd2)
 refine zh<|za<|zP rfl rfl (zS rfl rfl) (fun b1=> ?_)
 refine zP rfl rfl (zS rfl rfl) (fun b2=> ?_)
 refine zP rfl rfl (zn zr41 rfl) (fun b3=> ?_)
 refine zP rfl rfl (zn zr41 rfl) (fun b4=> ?_)
 refine e_p (zd rfl)<|zi<|ze<|zh<|zwa (.c (i:=3) rfl (.c (i:=2) rfl (.c (i:=0) rfl (.c (i:=0) rfl .n))))<|zY (OW:=[boxA b1 41 [.bool (decide (x1<0)),.slice p1 ((yd ((x1).natAbs)).length) c1],boxA b2 41 [.bool (decide (x2<0)),.slice p2 ((yd ((x2).natAbs)).length) c2]]) (O:=[boxA b4 41 [wz.b,wz.l],boxA b3 41 [wz.b,wz.l]]) 4 mixed (.then .ret) kr<|e_uw 0 rfl rfl (zb 0 ty41 rfl rfl (.t2 .nil))<|e_uw 2 rfl rfl (zb 1 ty41 rfl rfl (.t2 .nil))<|e_one 1 (zq rfl rfl rfl rfl (.c rfl .n) ce111 (zbd (z:=x1) (p:=p1) (cap:=c1) (hln:=by first|rfl|assumption|omega|(unfold ym;omega)|(unfold ym;rw [hsq];omega)|(decide +kernel))) (.c (j:=0) rfl .n) ?_)
 rintro ⟨p25,c26⟩ -
 dsimp only [aq,nq,cq]
 refine e_one 3 (zq rfl rfl rfl rfl (.c rfl .n) ce111 (zbd (z:=x2) (p:=p2) (cap:=c2) (hln:=by first|rfl|assumption|omega|(unfold ym;omega)|(unfold ym;rw [hsq];omega)|(decide +kernel))) (.c (j:=2) rfl .n) ?_)
 rintro ⟨p27,c28⟩ -
 dsimp only [aq,nq,cq]
 refine e_one 4 (zr kr rfl rfl rfl rfl rfl sz41 rfl (.t2 .nil) ?_)
 refine zeb (zfa (i:=1) rfl)<|e_one 5 (zr kr rfl rfl rfl rfl rfl sz41 rfl (.t2 .nil) ?_)
 refine zW kr<|ze<|zh<|zh<|za<|e_p (zf yo rfl sz39 rfl rfl)<|e_ru (zg 0 ty39 rfl rfl rfl)<|e_p (zR yj rfl)<|e_p (zxa rfl rfl)<|zi<|ze<|zJ rfl (fun h9=> ?_) (fun h9=> ?_)
 ·
  exact absurd (yM.1 (show (yd x2.natAbs).length=0 by omega)) om
 ·
  refine zC<|ze<|zh<|za<|e_p (zf yo rfl sz39 rfl rfl)<|e_ru (zg 1 ty39 rfl rfl rfl)<|e_p (zf yo rfl sz39 rfl rfl)<|e_ru (zg 0 ty39 rfl rfl rfl)<|zG rfl rfl (.c rfl (.c rfl .n)) ce131 (znd (a:=(x1).natAbs) (b:=(x2).natAbs) (p1:=p25) (c1:=c26) (p2:=p27) (c2:=c28) (hb1:=by first|rfl|assumption|omega|(unfold ym;omega)|(unfold ym;rw [hsq];omega)|(decide +kernel)) (hb2:=by first|rfl|assumption|omega|(unfold ym;omega)|(unfold ym;rw [hsq];omega)|(decide +kernel)) (hb0:=by first|rfl|assumption|omega|(unfold ym;omega)|(unfold ym;rw [hsq];omega)|(decide +kernel))) (.c (j:=1) rfl (.c (j:=0) rfl .n)) ?_
  rintro ⟨p310,c311,p412,c413⟩ -
  dsimp only [aq,nq,cq]
  refine e_mv rfl<|e_p (zA rfl rfl)<|e_p (zA rfl rfl)<|e_p (zd rfl)<|e_p (zd rfl)<|zi<|ze<|zh ?_
  obtain ⟨Q,hQ⟩:∃z,z=((x1).natAbs) / ((x2).natAbs):=⟨_,rfl⟩
  rw [← hQ]
  obtain ⟨R0,hR0⟩:∃z,z=((x1).natAbs)%((x2).natAbs):=⟨_,rfl⟩
  rw [← hR0]
  rw [← hQ] at hl1
  rw [← hR0] at hl2
  have hsq:(yL (decide (decide (x1<0)≠decide (x2<0))) (Q:Int)).natAbs=Q:=by rw [Big.sg_abs om];exact Int.toNat_natCast _
  refine za<|e_p (zf yo rfl sz4 rfl rfl)<|e_ru (zg 1 ty4 rfl rfl rfl)<|e_p (zf yo rfl sz4 rfl rfl)<|e_ru (zg 0 ty4 rfl rfl rfl)<|e_p (zTa Tryz.underlying4 rfl rfl)<|e_mv rfl<|zG rfl rfl (.c rfl (.c rfl .n)) ce112 (zrb (s:=decide (decide (x1<0)≠decide (x2<0))) (a:=Q) (p:=p310) (cap:=c311) (hln:=by first|rfl|assumption|omega|(unfold ym;omega)|(unfold ym;rw [hsq];omega)|(decide +kernel))) (.c (j:=0) rfl .n) ?_
  rintro ⟨p214,c215⟩ -
  dsimp only [aq,nq,cq]
  refine zP rfl rfl (zn zr41 rfl) (fun b16=> ?_)
  refine zm 0 rfl rfl rfl rfl rfl sz41 rfl (.t2 .nil) .z<|zi<|ze<|zh<|zh<|za<|e_p (zf yo rfl sz4 rfl rfl)<|e_ru (zg 2 ty4 rfl rfl rfl)<|e_p (zf yo rfl sz4 rfl rfl)<|e_ru (zg 1 ty4 rfl rfl rfl)<|e_p (zTa Tryz.underlying4 rfl rfl)<|zZ rfl rfl (zaa rfl) (fun hsd=> ?_) (fun hsd=> ?_)
  ·
   refine e_mv rfl<|e_p (zR yj rfl)<|e_p (zDa rfl rfl)<|e_p (zp rfl rfl)<|zi<|ze<|zJ rfl (fun hadj=> ?_) (fun hadj=> ?_)
   ·
    have hr0:x1.natAbs%x2.natAbs≠0:=fun e=>by rw [hR0,e,Big.digs_zero] at hadj;exact absurd hadj dd
    have hqz:yL (decide (decide (x1<0)≠decide (x2<0))) (Q:Int) - 1=yA x1 x2:=by have h9:=(Big.fq_odd hy hsd hr0).1;rw [← h9,decide_eq_true hsd,hQ,Big.sg_t,Big.sg_t];omega
    refine zY (OW:=[boxA b16 41 [.bool (decide ((yL (decide (decide (x1<0)≠decide (x2<0))) (Q:Int))<0)),.slice p214 ((yd ((yL (decide (decide (x1<0)≠decide (x2<0))) (Q:Int)).natAbs)).length) c215]]) (O:=[boxA b2 41 [.bool (decide (x2<0)),.slice p27 ((yd ((x2).natAbs)).length) c28],boxA b1 41 [.bool (decide (x1<0)),.slice p25 ((yd ((x1).natAbs)).length) c26],boxA b4 41 [wz.b,wz.l],boxA b3 41 [wz.b,wz.l]]) 3 mixed (.then .ret) kr<|e_uw 0 rfl rfl (zb 0 ty41 rfl rfl (.t2 .nil))<|e_one 1 (zq rfl rfl rfl rfl (.c rfl .n) ce113 (zFf (z:=1) (hz:=by first|rfl|assumption|omega|(unfold ym;omega)|(unfold ym;rw [hsq];omega)|(decide +kernel))) (.n) ?_)
    rintro ⟨p217,c218⟩ -
    dsimp only [aq,nq,cq]
    refine e_one 2 (zq rfl rfl rfl rfl (.c rfl (.c rfl .n)) ce133 (zqc (x1:=yL (decide (decide (x1<0)≠decide (x2<0))) (Q:Int)) (x2:=1) (p1:=p214) (c1:=c215) (p2:=p217) (c2:=c218) (hb1:=by first|rfl|assumption|omega|(unfold ym;omega)|(unfold ym;rw [hsq];omega)|(decide +kernel)) (hb2:=by first|rfl|assumption|omega|(unfold ym;omega)|(unfold ym;rw [hsq];omega)|(decide +kernel))) (.c (j:=1) rfl (.c (j:=0) rfl .n)) ?_)
    rintro ⟨p319,c320⟩ -
    dsimp only [aq,nq,cq]
    refine e_one 3 (zr kr rfl rfl rfl rfl rfl sz41 rfl (.t2 .nil) ?_)
    refine zW kr<|ze<|zh ?_
    have e21:(yL (decide (decide (x1<0)≠decide (x2<0))) (Q:Int)) - 1=yA x1 x2:=by exact hqz
    rw [e21]
    refine zwa (.c (i:=4) rfl (.c (i:=3) rfl (.c (i:=0) rfl (.c (i:=0) rfl (.c (i:=0) rfl .n)))))<|zY (OW:=[boxA b3 41 [wz.b,wz.l],boxA b4 41 [wz.b,wz.l]]) (O:=[boxA b16 41 [.bool (decide ((yA x1 x2)<0)),.slice p319 ((yd ((yA x1 x2).natAbs)).length) c320],boxA b2 41 [.bool (decide (x2<0)),.slice p27 ((yd ((x2).natAbs)).length) c28],boxA b1 41 [.bool (decide (x1<0)),.slice p25 ((yd ((x1).natAbs)).length) c26]]) 6 mixed (.then .ret) kr<|e_uw 0 rfl rfl (zb 2 ty41 rfl rfl (.t2 .nil))<|e_uw 1 rfl rfl (zb 4 ty41 rfl rfl (.t2 .nil))<|e_uw 2 rfl rfl (zb 2 ty41 rfl rfl (.t2 .nil))<|e_uw 3 rfl rfl (zb 3 ty41 rfl rfl (.t2 .nil))<|e_one 4 (zq rfl rfl rfl rfl (.c rfl (.c rfl .n)) ce73 (zrc (x1:=yA x1 x2) (x2:=x2) (p1:=p319) (c1:=c320) (p2:=p27) (c2:=c28) (hb1:=by first|rfl|assumption|omega|(unfold ym;omega)|(unfold ym;rw [hsq];omega)|(decide +kernel)) (hb2:=by first|rfl|assumption|omega|(unfold ym;omega)|(unfold ym;rw [hsq];omega)|(decide +kernel))) (.c (j:=0) rfl (.c (j:=5) rfl .n)) ?_)
    rintro ⟨p322,c323⟩ -
    dsimp only [aq,nq,cq]
    refine e_one 5 (zq rfl rfl rfl rfl (.c rfl (.c rfl .n)) ce133 (zqc (x1:=x1) (x2:=(yA x1 x2)*x2) (p1:=p25) (c1:=c26) (p2:=p322) (c2:=c323) (hb1:=by first|rfl|assumption|omega|(unfold ym;omega)|(unfold ym;rw [hsq];omega)|(decide +kernel)) (hb2:=by first|rfl|assumption|omega|(unfold ym;omega)|(unfold ym;rw [hsq];omega)|(decide +kernel))) (.c (j:=7) rfl (.c (j:=0) rfl .n)) ?_)
    rintro ⟨p324,c325⟩ -
    dsimp only [aq,nq,cq]
    refine e_one 6 (zr kr rfl rfl rfl rfl rfl sz41 rfl (.t2 .nil) ?_)
    refine zeb (zfa (i:=1) rfl)<|e_one 7 (zr kr rfl rfl rfl rfl rfl sz41 rfl (.t2 .nil) ?_)
    refine e_pv 8 rfl rfl (zd rfl)<|zW kr<|ze<|zL ?_
    have hz2:x1 - yA x1 x2*x2=yQ x1 x2:=by unfold yQ;rw [Int.mul_comm]
    exact zid Tryz.results110 (p319,c320,p324,c325) trivial (zv 1 ty41 rfl rfl (.t2 .nil)) (zv 0 ty41 rfl rfl (.t2 .nil)) (zl rfl) (by rw [hz2]) (ho:=oN) ((.c (j:=2) rfl (.e (j:=0) rfl (by rw [hz2]) .n)):SelR _ _ _)
   ·
    have hr0:x1.natAbs%x2.natAbs=0:=yM.1 (by rw [← hR0];omega)
    have hqz:yL (decide (decide (x1<0)≠decide (x2<0))) (Q:Int)=yA x1 x2:=by rw [decide_eq_true hsd,hQ];exact (Big.fq_even hy hsd hr0).1
    refine zC<|ze<|zh ?_
    have e26:yL (decide (decide (x1<0)≠decide (x2<0))) (Q:Int)=yA x1 x2:=by exact hqz
    rw [e26]
    refine zwa (.c (i:=4) rfl (.c (i:=3) rfl (.c (i:=0) rfl (.c (i:=0) rfl (.c (i:=0) rfl .n)))))<|zY (OW:=[boxA b3 41 [wz.b,wz.l],boxA b4 41 [wz.b,wz.l]]) (O:=[boxA b16 41 [.bool (decide ((yA x1 x2)<0)),.slice p214 ((yd ((yA x1 x2).natAbs)).length) c215],boxA b2 41 [.bool (decide (x2<0)),.slice p27 ((yd ((x2).natAbs)).length) c28],boxA b1 41 [.bool (decide (x1<0)),.slice p25 ((yd ((x1).natAbs)).length) c26]]) 6 mixed (.then .ret) kr<|e_uw 0 rfl rfl (zb 2 ty41 rfl rfl (.t2 .nil))<|e_uw 1 rfl rfl (zb 4 ty41 rfl rfl (.t2 .nil))<|e_uw 2 rfl rfl (zb 2 ty41 rfl rfl (.t2 .nil))<|e_uw 3 rfl rfl (zb 3 ty41 rfl rfl (.t2 .nil))<|e_one 4 (zq rfl rfl rfl rfl (.c rfl (.c rfl .n)) ce73 (zrc (x1:=yA x1 x2) (x2:=x2) (p1:=p214) (c1:=c215) (p2:=p27) (c2:=c28) (hb1:=by first|rfl|assumption|omega|(unfold ym;omega)|(unfold ym;rw [hsq];omega)|(decide +kernel)) (hb2:=by first|rfl|assumption|omega|(unfold ym;omega)|(unfold ym;rw [hsq];omega)|(decide +kernel))) (.c (j:=0) rfl (.c (j:=3) rfl .n)) ?_)
    rintro ⟨p327,c328⟩ -
    dsimp only [aq,nq,cq]
    refine e_one 5 (zq rfl rfl rfl rfl (.c rfl (.c rfl .n)) ce133 (zqc (x1:=x1) (x2:=(yA x1 x2)*x2) (p1:=p25) (c1:=c26) (p2:=p327) (c2:=c328) (hb1:=by first|rfl|assumption|omega|(unfold ym;omega)|(unfold ym;rw [hsq];omega)|(decide +kernel)) (hb2:=by first|rfl|assumption|omega|(unfold ym;omega)|(unfold ym;rw [hsq];omega)|(decide +kernel))) (.c (j:=5) rfl (.c (j:=0) rfl .n)) ?_)
    rintro ⟨p329,c330⟩ -
    dsimp only [aq,nq,cq]
    refine e_one 6 (zr kr rfl rfl rfl rfl rfl sz41 rfl (.t2 .nil) ?_)
    refine zeb (zfa (i:=1) rfl)<|e_one 7 (zr kr rfl rfl rfl rfl rfl sz41 rfl (.t2 .nil) ?_)
    refine e_pv 8 rfl rfl (zd rfl)<|zW kr<|ze<|zL ?_
    have hz2:x1 - yA x1 x2*x2=yQ x1 x2:=by unfold yQ;rw [Int.mul_comm]
    exact zid Tryz.results110 (p214,c215,p329,c330) trivial (zv 1 ty41 rfl rfl (.t2 .nil)) (zv 0 ty41 rfl rfl (.t2 .nil)) (zl rfl) (by rw [hz2]) (ho:=oN) ((.c (j:=2) rfl (.e (j:=0) rfl (by rw [hz2]) .n)):SelR _ _ _)
  ·
   have hs9:=Decidable.not_not.1 hsd
   have hqz:yL (decide (decide (x1<0)≠decide (x2<0))) (Q:Int)=yA x1 x2:=by rw [decide_eq_false hsd,hQ];exact (Big.fq_same hy hs9).1
   refine e_no<|e_no<|e_no<|e_p (zp rfl rfl)<|zi<|ze<|zbb rfl rfl<|zC<|ze<|zh ?_
   have e31:yL (decide (decide (x1<0)≠decide (x2<0))) (Q:Int)=yA x1 x2:=by exact hqz
   rw [e31]
   refine zwa (.c (i:=4) rfl (.c (i:=3) rfl (.c (i:=0) rfl (.c (i:=0) rfl (.c (i:=0) rfl .n)))))<|zY (OW:=[boxA b3 41 [wz.b,wz.l],boxA b4 41 [wz.b,wz.l]]) (O:=[boxA b16 41 [.bool (decide ((yA x1 x2)<0)),.slice p214 ((yd ((yA x1 x2).natAbs)).length) c215],boxA b2 41 [.bool (decide (x2<0)),.slice p27 ((yd ((x2).natAbs)).length) c28],boxA b1 41 [.bool (decide (x1<0)),.slice p25 ((yd ((x1).natAbs)).length) c26]]) 6 mixed (.then .ret) kr<|e_uw 0 rfl rfl (zb 2 ty41 rfl rfl (.t2 .nil))<|e_uw 1 rfl rfl (zb 4 ty41 rfl rfl (.t2 .nil))<|e_uw 2 rfl rfl (zb 2 ty41 rfl rfl (.t2 .nil))<|e_uw 3 rfl rfl (zb 3 ty41 rfl rfl (.t2 .nil))<|e_one 4 (zq rfl rfl rfl rfl (.c rfl (.c rfl .n)) ce73 (zrc (x1:=yA x1 x2) (x2:=x2) (p1:=p214) (c1:=c215) (p2:=p27) (c2:=c28) (hb1:=by first|rfl|assumption|omega|(unfold ym;omega)|(unfold ym;rw [hsq];omega)|(decide +kernel)) (hb2:=by first|rfl|assumption|omega|(unfold ym;omega)|(unfold ym;rw [hsq];omega)|(decide +kernel))) (.c (j:=0) rfl (.c (j:=3) rfl .n)) ?_)
   rintro ⟨p332,c333⟩ -
   dsimp only [aq,nq,cq]
   refine e_one 5 (zq rfl rfl rfl rfl (.c rfl (.c rfl .n)) ce133 (zqc (x1:=x1) (x2:=(yA x1 x2)*x2) (p1:=p25) (c1:=c26) (p2:=p332) (c2:=c333) (hb1:=by first|rfl|assumption|omega|(unfold ym;omega)|(unfold ym;rw [hsq];omega)|(decide +kernel)) (hb2:=by first|rfl|assumption|omega|(unfold ym;omega)|(unfold ym;rw [hsq];omega)|(decide +kernel))) (.c (j:=5) rfl (.c (j:=0) rfl .n)) ?_)
   rintro ⟨p334,c335⟩ -
   dsimp only [aq,nq,cq]
   refine e_one 6 (zr kr rfl rfl rfl rfl rfl sz41 rfl (.t2 .nil) ?_)
   refine zeb (zfa (i:=1) rfl)<|e_one 7 (zr kr rfl rfl rfl rfl rfl sz41 rfl (.t2 .nil) ?_)
   refine e_pv 8 rfl rfl (zd rfl)<|zW kr<|ze<|zL ?_
   have hz2:x1 - yA x1 x2*x2=yQ x1 x2:=by unfold yQ;rw [Int.mul_comm]
   exact zid Tryz.results110 (p214,c215,p334,c335) trivial (zv 1 ty41 rfl rfl (.t2 .nil)) (zv 0 ty41 rfl rfl (.t2 .nil)) (zl rfl) (by rw [hz2]) (ho:=oN) ((.c (j:=2) rfl (.e (j:=0) rfl (by rw [hz2]) .n)):SelR _ _ _)
theorem zwb {w1:Wd} {w2:Wd} {x1:Int} {x2:Int} (hb1:ym x1≤1099511627776) (hb2:ym x2≤1099511627776) (hy:x2≠0):Con yk 110 [.agg #[w1.b,w1.l],.agg #[w2.b,w2.l]] [] [zF w1 (x1),zF w2 (x2)] (Y:=(Wd)×(Wd)) (fun y=>True) (fun y=> .tuple #[.agg #[y.1.b,y.1.l],.agg #[y.2.b,y.2.l],ya yb (0)]) (fun y=>[]) (fun y=>[zF y.1 (yA x1 x2),zF y.2 (yQ x1 x2)]):=by
  exact zwf (zHc (fun p1 c1 p2 c2=>zVd hb1 hb2 hy))
end Go.Proofs.YtjcpbhlijoigfaaGreat.Sp
namespace Go.Proofs.YtjcpbhlijoigfaaGreat.Sp
open Go
set_option linter.unusedVariables false
set_option maxRecDepth 100000
set_option maxHeartbeats 8000000
theorem zod {z:Int} (hz: -9223372036854775808≤z∧z≤9223372036854775807):Con yk 74 [ya yb z] [] [] (Y:=(Option Addr)×Nat) (fun y=>True) (fun y=> .agg #[.bool (decide (z<0)),.slice (y.1) ((yd ((z).natAbs)).length) (y.2)]) (fun y=>[]) (fun y=>[slF (rI .u32) (y.1) (y.2) (yd ((z).natAbs))]):=by
 refine zo Tryz.func74 rfl rfl rfl (fun c=> ?_)
 show RunC _ _ _ _ _ [(0,ya yb z)] [] []
 refine zh<|za<|zP rfl rfl (zn zr41 rfl) (fun b1=> ?_)
 refine zi<|ze<|zh<|za<|e_mv rfl<|zG rfl rfl (.c rfl .n) ce113 (zFf (z:=z) (hz:=ass)) (.n) ?_
 rintro ⟨p22,c23⟩ -
 dsimp only [aq,nq,cq]
 refine zm 0 rfl rfl rfl rfl rfl sz41 rfl (.t2 .nil) .z<|zi<|ze<|zL ?_
 exact zx Tryz.results74 (p22,c23) trivial (zv 0 ty41 rfl rfl (.t2 .nil)) rfl (ho:=oN) (s0 rfl)
theorem zLb {z:Int} (hz: -9223372036854775808≤z∧z≤9223372036854775807):Con yk 74 [ya yb (z)] [] [] (Y:=(Wd)) (fun y=>True) (fun y=> .agg #[y.b,y.l]) (fun y=>[]) (fun y=>[zF y (z)]):=by
  exact zZb (zod hz)
theorem zkb {z:Int} (hz: -9223372036854775808≤z∧z≤9223372036854775807):Con yk 26 [ya yb z] [] [] (Y:=Wd×Wd) (fun y=>True) (fun y=> .agg #[y.1.b,y.1.l,y.2.b,y.2.l]) (fun y=>[]) (fun y=>[qF true y.1 y.2 ((z:Int):Rat)]):=by
 refine zo Tryz.func26 rfl rfl rfl (fun c=> ?_)
 show RunC _ _ _ _ _ [(0,ya yb z)] [] []
 refine zh<|za<|zP rfl rfl (zn zr43 rfl) (fun b1=> ?_)
 refine zi<|ze<|zh<|za<|e_mv rfl<|zG rfl rfl (.c rfl .n) ce74 (zLb (z:=z) (hz:=ass)) (.n) ?_
 rintro w32 -
 dsimp only [aq,nq,cq]
 refine zG rfl rfl (.c rfl .n) ce74 (zLb (z:=1) (hz:=by first|rfl|assumption|omega|(rw [yp];omega)|(decide +kernel))) (.n) ?_
 rintro w33 -
 dsimp only [aq,nq,cq]
 refine e_p (zK zr43 rfl yf (.c sz41 (.c sz41 .n)) (.c rfl (.c rfl .n)) (.c rfl rfl rfl (.t2 .nil) (.c rfl rfl rfl (.s2 (.t2 .nil)) .n)))<|zm 0 rfl rfl rfl rfl rfl sz43 rfl (.t4 .nil) .z<|zi<|ze<|zL<|zQb (qF true w32 w33 ((z:Int):Rat)) (qF_close 1 0 rfl rfl (by exact ⟨(Rat.num_intCast z).symm,by rw [Rat.den_intCast];rfl,Nat.le_trans (Big.hq_64 hz.1 hz.2) dd⟩)) ?_
 exact zx Tryz.results26 (w32,w33) trivial (zv 0 ty43 rfl rfl (.t4 .nil)) rfl (ho:=oN) (s0 rfl)
theorem zdd {s:Bool} {p1:Option Addr} {n1:Nat} {c1:Nat} {l1:List Int} {t:Bool} {p2:Option Addr} {n2:Nat} {c2:Nat} {l2:List Int} (hn1:l1.length=n1) (hn2:l2.length=n2) (hm1:n1≤1099511627776) (hm2:n2≤1099511627776):Con yk 88 [.agg #[.bool s,.slice p1 n1 c1,.bool t,.slice p2 n2 c2]] [] [slF (rI .u32) p1 c1 l1,slF (rI .u32) p2 c2 l2] (Y:=Unit) (fun y=>True) (fun y=> .bool (decide (Big.qok ((s,l1),(t,l2))))) (fun y=>[]) (fun y=>[]):=by
 refine zo Tryz.func88 rfl rfl rfl (fun c=> ?_)
 show RunC _ _ _ _ _ [(0,.agg #[.bool s,.slice p1 n1 c1,.bool t,.slice p2 n2 c2])] [] [slF (rI .u32) p1 c1 l1,slF (rI .u32) p2 c2 l2]
 refine zea 0 rfl (fun hL0=> ?_)
 refine zZa 0 rfl (fun hE0=> ?_)
 refine zea 1 rfl (fun hL1=> ?_)
 refine zZa 1 rfl (fun hE1=> ?_)
 have hnn1:Big.nn l1:=fun g hg=>(zI.1 (hE0 g hg)).1
 have hnn2:Big.nn l2:=fun g hg=>(zI.1 (hE1 g hg)).1
 have hb1:ym (yn s l1)≤n1:=by have:=yP (s:=s) hnn1;omega
 have hb2:ym (yn t l2)≤n2:=by have:=yP (s:=t) hnn2;omega
 refine zh<|za<|zP rfl rfl (zS rfl rfl) (fun b1=> ?_)
 refine e_p (zd rfl)<|zi<|ze<|zh<|zGa (X:=Unit) (fun x=>True) (fun x=>[(18,.bool (decide (¬(Big.canon s l1∧Big.canon t l2∧0<yn t l2)))),(2,.bool false),(1,yc (some ⟨b1,0,none⟩))]) (fun x=>[boxA b1 43 [.bool s,.slice p1 n1 c1,.bool t,.slice p2 n2 c2]]) (fun x=>[slF (rI .u32) p1 c1 l1,slF (rI .u32) p2 c2 l2]) ?_ ?_
 ·
  refine za<|e_p (zf yf rfl sz41 rfl rfl)<|e_ru (zb 0 ty41 rfl rfl (.t2 .nil))<|zQ rfl rfl (.c rfl .n) ce122 (zxc (s:=s) (p:=p1) (n:=n1) (cap:=c1) (l:=l1) (hn:=ass)) (.c (j:=0) rfl .n)<|e_p (zgb rfl)<|zZ rfl rfl (zaa rfl) (fun h2=> ?_) (fun h2=> ?_)
  ·
   refine e_no<|e_no<|e_no<|e_no<|e_p (zp rfl rfl)<|e_mv rfl<|e_no<|e_no<|e_no<|e_no<|e_p (zp rfl rfl)<|zi ?_
   exact zha () tt9 ((.e rfl (congrArg Value.bool (by simp_all)) (.c rfl (.c rfl .n))):SubM _ _) (ho:=(o0 rfl)) ((.of [0,1] rfl):SelR _ _ _)
  ·
   refine e_p (zf yf rfl sz41 rfl rfl)<|e_ru (zb 0 ty41 rfl rfl (.s2 (.t2 .nil)))<|zQ rfl rfl (.c rfl .n) ce122 (zxc (s:=t) (p:=p2) (n:=n2) (cap:=c2) (l:=l2) (hn:=ass)) (.c (j:=1) rfl .n)<|e_p (zgb rfl)<|e_p (zp rfl rfl)<|zZ rfl rfl (zaa rfl) (fun h3=> ?_) (fun h3=> ?_)
   ·
    refine e_no<|e_no<|e_no<|e_no<|e_p (zp rfl rfl)<|zi ?_
    exact zha () tt9 ((.e rfl (congrArg Value.bool (by simp_all)) (.c rfl (.c rfl .n))):SubM _ _) (ho:=(o0 rfl)) ((.of [0,1] rfl):SelR _ _ _)
   ·
    refine e_p (zf yf rfl sz41 rfl rfl)<|e_ru (zb 0 ty41 rfl rfl (.s2 (.t2 .nil)))<|zQ rfl rfl (.c rfl .n) ce105 (zRd (s:=t) (p:=p2) (n:=n2) (cap:=c2) (l:=l2) (hn:=ass) (hln:=by first|rfl|assumption|omega|(rw [yp];omega)|(decide +kernel))) (.c (j:=1) rfl .n)<|e_p (zWa rfl rfl)<|e_p (zp rfl rfl)<|zi ?_
    exact zha () tt9 ((.e rfl (congrArg Value.bool (by exact decide_eq_decide.2 (Big.sgn_le (Decidable.not_not.1 ‹_›) (Decidable.not_not.1 ‹_›)))) (.c rfl (.c rfl .n))):SubM _ _) (ho:=(o0 rfl)) ((.of [0,1] rfl):SelR _ _ _)
 ·
  rintro ⟨⟩ -
  try dsimp only
  refine zJ rfl (fun hc=> ?_) (fun hc=> ?_)
  ·
   refine zh<|za<|e_p (zd rfl)<|zi<|ze<|zL<|zj ?_
   exact zx Tryz.results88 () trivial (zl rfl) (congrArg Value.bool (decide_eq_false (fun h=>hc ⟨h.1,h.2.1,h.2.2.1⟩))) (ho:=oN) sN
  ·
   have hcc:=Decidable.not_not.1 hc
   have hgl:=Big.zLd (n:=yn s l1) (d:=yn t l2) om
   refine zC<|ze<|zh<|za<|e_p (zf yf rfl sz41 rfl rfl)<|e_ru (zb 0 ty41 rfl rfl (.t2 .nil))<|e_p (zf yf rfl sz41 rfl rfl)<|e_ru (zb 0 ty41 rfl rfl (.s2 (.t2 .nil)))<|zG rfl rfl (.c rfl (.c rfl .n)) ce109 (zOe (s:=s) (p1:=p1) (n1:=n1) (c1:=c1) (l1:=l1) (t:=t) (p2:=p2) (n2:=n2) (c2:=c2) (l2:=l2) (hn1:=ass) (hn2:=ass) (hm1:=by first|rfl|assumption|omega|(rw [yp];omega)|(decide +kernel)) (hm2:=by first|rfl|assumption|omega|(rw [yp];omega)|(decide +kernel))) (.c (j:=0) rfl (.c (j:=1) rfl .n)) ?_
   rintro ⟨p34,c35⟩ -
   dsimp only [aq,nq,cq]
   refine zG rfl rfl (.c rfl .n) ce74 (zod (z:=1) (hz:=by first|rfl|assumption|omega|(rw [yp];omega)|(decide +kernel))) (.n) ?_
   rintro ⟨p26,c27⟩ -
   dsimp only [aq,nq,cq]
   refine zQ rfl rfl (.c rfl (.c rfl .n)) ce123 (zAd (x1:=((Nat.gcd (yn s l1).natAbs (yn t l2).natAbs:Nat):Int)) (x2:=1) (p1:=p34) (c1:=c35) (p2:=p26) (c2:=c27) (hb1:=by first|rfl|assumption|omega|(rw [yp];omega)|(decide +kernel)) (hb2:=by first|rfl|assumption|omega|(rw [yp];omega)|(decide +kernel))) (.c (j:=1) rfl (.c (j:=0) rfl .n))<|e_p (zxa rfl rfl)<|e_p (zd rfl)<|zi<|ze<|zL ?_
   exact zx Tryz.results88 () trivial (zl rfl) (congrArg Value.bool (decide_eq_decide.2 (Big.qok_sub (x:=((s,l1),(t,l2))) (Decidable.not_not.1 hc)).symm)) (ho:=oN) sN
theorem zIc {u1:Wd} {v1:Wd} {q1:Rat}:Con yk 88 [.agg #[u1.b,u1.l,v1.b,v1.l]] [] [qF true u1 v1 (q1)] (Y:=Unit) (fun y=>True) (fun y=> .bool true) (fun y=>[]) (fun y=>[]):=by
  exact zjg (fun x hx hk h1 h2=>by have h:= @zdd x.1.1 u1.p _ u1.c x.1.2 x.2.1 v1.p _ v1.c x.2.2 rfl rfl h1 h2;rw [decide_eq_true (hk rfl)] at h;exact h)
theorem zpe {s:Bool} {p1:Option Addr} {n1:Nat} {c1:Nat} {l1:List Int} {t:Bool} {p2:Option Addr} {n2:Nat} {c2:Nat} {l2:List Int} (hn1:l1.length=n1) (hn2:l2.length=n2) (hm1:n1≤1099511627776) (hm2:n2≤1099511627776):Con yk 68 [.agg #[.bool s,.slice p1 n1 c1,.bool t,.slice p2 n2 c2]] [] [slF (rI .u32) p1 c1 l1,slF (rI .u32) p2 c2 l2] (Y:=Wd×Wd) (fun y=>True) (fun y=> .agg #[y.1.b,y.1.l,y.2.b,y.2.l]) (fun y=>[]) (fun y=>[qF true y.1 y.2 (Big.qv ((s,l1),(t,l2)))]):=by
 refine zo Tryz.func68 rfl rfl rfl (fun c=> ?_)
 show RunC _ _ _ _ _ [(0,.agg #[.bool s,.slice p1 n1 c1,.bool t,.slice p2 n2 c2])] [] [slF (rI .u32) p1 c1 l1,slF (rI .u32) p2 c2 l2]
 refine zea 0 rfl (fun hL0=> ?_)
 refine zZa 0 rfl (fun hE0=> ?_)
 refine zea 1 rfl (fun hL1=> ?_)
 refine zZa 1 rfl (fun hE1=> ?_)
 have hnn1:Big.nn l1:=fun g hg=>(zI.1 (hE0 g hg)).1
 have hnn2:Big.nn l2:=fun g hg=>(zI.1 (hE1 g hg)).1
 have hb1:ym (yn s l1)≤n1:=by have:=yP (s:=s) hnn1;omega
 have hb2:ym (yn t l2)≤n2:=by have:=yP (s:=t) hnn2;omega
 refine zh<|za<|zP rfl rfl (zS rfl rfl) (fun b1=> ?_)
 refine zP rfl rfl (zn zr43 rfl) (fun b2=> ?_)
 refine zi<|ze<|zh<|zh<|za<|e_ru (zb 1 ty43 rfl rfl (.t4 .nil))<|zQ rfl rfl (.c rfl .n) ce88 (zdd (s:=s) (p1:=p1) (n1:=n1) (c1:=c1) (l1:=l1) (t:=t) (p2:=p2) (n2:=n2) (c2:=c2) (l2:=l2) (hn1:=ass) (hn2:=ass) (hm1:=ass) (hm2:=ass)) (.c (j:=0) rfl (.c (j:=1) rfl .n))<|zi<|ze<|zJ rfl (fun hq=> ?_) (fun hq=> ?_)
 ·
  have hrp:=Big.raw_parts (x:=((s,l1),(t,l2))) hnn1 hnn2 hq
  have hqp:=Big.qv_parts (x:=((s,l1),(t,l2))) hq
  have hl:yz (Big.qv ((s,l1),(t,l2)))≤1099511627776:=by unfold yz;rw [hqp.1,hqp.2];dsimp only;omega
  refine zh<|za<|e_ru (zb 1 ty43 rfl rfl (.t4 .nil))<|zm 0 rfl rfl rfl rfl rfl sz43 rfl (.t4 .nil) .z<|zi<|ze<|zL<|zj<|zQb (qF true ⟨s,p1,n1,c1⟩ ⟨t,p2,n2,c2⟩ (Big.qv ((s,l1),(t,l2)))) (fun g r=>qF_rawI 0 1 rfl rfl hn1 hn2 hm1 hm2 hq g r) ?_
  exact zx Tryz.results68 (⟨s,p1,n1,c1⟩,⟨t,p2,n2,c2⟩) trivial (zv 0 ty43 rfl rfl (.t4 .nil)) rfl (ho:=oN) (s0 rfl)
 ·
  have hz:=Big.qv_not (x:=((s,l1),(t,l2))) hq
  refine zC<|ze<|zh<|za<|zG rfl rfl (.c rfl .n) ce26 (zkb (z:=0) (hz:=by first|rfl|assumption|omega|(rw [yp];omega)|(decide +kernel))) (.n) ?_
  rintro ⟨w33,w44⟩ -
  dsimp only [aq,nq,cq]
  refine zm 0 rfl rfl rfl rfl rfl sz43 rfl (.t4 .nil) .z<|zi<|ze<|zL ?_
  exact zx Tryz.results68 (w33,w44) trivial (zv 0 ty43 rfl rfl (.t4 .nil)) rfl (ho:=oN) ((.e (j:=0) rfl (by rw [hz];rfl) .n):SelR _ _ _)
theorem zLa {k1:Bool} {u1:Wd} {v1:Wd} {q1:Rat}:Con yk 68 [.agg #[u1.b,u1.l,v1.b,v1.l]] [] [qF k1 u1 v1 (q1)] (Y:=(Wd)×(Wd)) (fun y=>True) (fun y=> .agg #[y.1.b,y.1.l,y.2.b,y.2.l]) (fun y=>[]) (fun y=>[qF true y.1 y.2 (q1)]):=by
  exact zvf (fun x hx hk h1 h2 hl=>by subst hx;exact zpe rfl rfl h1 h2)
theorem zUb {w1:Wd} {w2:Wd} {x1:Int} {x2:Int} (hl1:ym x1≤1099511627776) (hl2:ym x2≤1099511627776) (hd:x2≠0):Con yk 72 [.agg #[w1.b,w1.l],.agg #[w2.b,w2.l]] [] [zF w1 x1,zF w2 x2] (Y:=Wd×Wd) (fun y=>True) (fun y=> .agg #[y.1.b,y.1.l,y.2.b,y.2.l]) (fun y=>[]) (fun y=>[qF true y.1 y.2 (Rat.divInt x1 x2)]):=by
 refine zo Tryz.func72 rfl rfl rfl (fun c=> ?_)
 show RunC _ _ _ _ _ [(0,.agg #[w1.b,w1.l]),(1,.agg #[w2.b,w2.l])] [] [zF w1 x1,zF w2 x2]
 refine zh<|za<|zP rfl rfl (zS rfl rfl) (fun b1=> ?_)
 refine zP rfl rfl (zS rfl rfl) (fun b2=> ?_)
 refine zP rfl rfl (zn zr43 rfl) (fun b3=> ?_)
 refine zi<|ze<|zh<|za<|e_ru (zb 2 ty41 rfl rfl (.t2 .nil))<|e_ru (zb 1 ty41 rfl rfl (.t2 .nil))<|zG rfl rfl (.c rfl (.c rfl .n)) ce109 (zLf (w1:=w1) (w2:=w2) (x1:=x1) (x2:=x2) (hb1:=by first|rfl|assumption|omega|(rw [yp];omega)|(decide +kernel)) (hb2:=by first|rfl|assumption|omega|(rw [yp];omega)|(decide +kernel))) (.c (j:=0) rfl (.c (j:=1) rfl .n)) ?_
 rintro w34 -
 dsimp only [aq,nq,cq]
 refine zP rfl rfl (zn zr41 rfl) (fun b5=> ?_)
 refine zm 0 rfl rfl rfl rfl rfl sz41 rfl (.t2 .nil) .z<|zi<|ze<|zh<|zh<|za<|e_ru (zb 2 ty41 rfl rfl (.t2 .nil))<|zQ rfl rfl (.c rfl .n) ce105 (zyc (w1:=w2) (x1:=x2) (hln:=by first|rfl|assumption|omega|(rw [yp];omega)|(decide +kernel))) (.c (j:=2) rfl .n)<|e_p (zda rfl rfl)<|zi<|ze<|zJ rfl (fun hneg=> ?_) (fun hneg=> ?_)
 ·
  have hs:x2<0:=by rcases Big.sign_le (x:=x2) with h|h|h <;> omega
  have hgp:=Big.gcd_pos_right (n:=x1) (d:=x2) om
  have hgl:=Big.zLd (n:=x1) (d:=x2) om
  obtain ⟨hr1,hr2⟩:=Big.red_neg (n:=x1) hs
  refine za<|e_ru (zb 0 ty41 rfl rfl (.t2 .nil))<|zG rfl rfl (.c rfl .n) ce106 (zQd (w1:=w34) (x1:=((Nat.gcd x1.natAbs x2.natAbs:Nat):Int)) (hln:=by first|rfl|assumption|omega|(rw [yp];omega)|(decide +kernel))) (.c (j:=0) rfl .n) ?_
  rintro w36 -
  dsimp only [aq,nq,cq]
  refine zm 0 rfl rfl rfl rfl rfl sz41 rfl (.t2 .nil) .z<|zi<|ze<|zh<|za<|e_ru (zb 3 ty41 rfl rfl (.t2 .nil))<|e_ru (zb 0 ty41 rfl rfl (.t2 .nil))<|zG rfl rfl (.c rfl (.c rfl .n)) ce110 (zwb (w1:=w1) (w2:=w36) (x1:=x1) (x2:= - ((Nat.gcd x1.natAbs x2.natAbs:Nat):Int)) (hb1:=by first|rfl|assumption|omega|(rw [yp];omega)|(decide +kernel)) (hb2:=by first|rfl|assumption|omega|(rw [yp];omega)|(decide +kernel)) (hy:=by first|rfl|assumption|omega|(rw [yp];omega)|(decide +kernel))) (.c (j:=2) rfl (.c (j:=0) rfl .n)) ?_
  rintro ⟨w37,w48⟩ -
  dsimp only [aq,nq,cq]
  refine e_mv rfl<|e_p (zA rfl rfl)<|e_p (zA rfl rfl)<|e_p (zA rfl rfl)<|zP rfl rfl (zn zr41 rfl) (fun b9=> ?_)
  refine zP rfl rfl (zn zr41 rfl) (fun b10=> ?_)
  refine zm 1 rfl rfl rfl rfl rfl sz41 rfl (.t2 .nil) (.s .z)<|zm 0 rfl rfl rfl rfl rfl sz41 rfl (.t2 .nil) .z<|e_p (zd rfl)<|zi<|ze<|zh<|za<|e_ru (zb 4 ty41 rfl rfl (.t2 .nil))<|e_ru (zb 2 ty41 rfl rfl (.t2 .nil))<|zG rfl rfl (.c rfl (.c rfl .n)) ce110 (zwb (w1:=w2) (w2:=w36) (x1:=x2) (x2:= - ((Nat.gcd x1.natAbs x2.natAbs:Nat):Int)) (hb1:=by first|rfl|assumption|omega|(rw [yp];omega)|(decide +kernel)) (hb2:=by first|rfl|assumption|omega|(rw [yp];omega)|(decide +kernel)) (hy:=by first|rfl|assumption|omega|(rw [yp];omega)|(decide +kernel))) (.c (j:=5) rfl (.c (j:=2) rfl .n)) ?_
  rintro ⟨w311,w412⟩ -
  dsimp only [aq,nq,cq]
  refine e_mv rfl<|e_p (zA rfl rfl)<|e_p (zA rfl rfl)<|e_p (zA rfl rfl)<|zP rfl rfl (zn zr41 rfl) (fun b13=> ?_)
  refine zP rfl rfl (zn zr41 rfl) (fun b14=> ?_)
  refine zm 1 rfl rfl rfl rfl rfl sz41 rfl (.t2 .nil) (.s .z)<|zm 0 rfl rfl rfl rfl rfl sz41 rfl (.t2 .nil) .z<|e_p (zd rfl)<|zi<|ze<|zh<|za<|e_ru (zb 3 ty41 rfl rfl (.t2 .nil))<|e_ru (zb 1 ty41 rfl rfl (.t2 .nil))<|e_p (zK zr43 rfl yf (.c sz41 (.c sz41 .n)) (.c rfl (.c rfl .n)) (.c rfl rfl rfl (.t2 .nil) (.c rfl rfl rfl (.s2 (.t2 .nil)) .n)))<|zm 5 rfl rfl rfl rfl rfl sz43 rfl (.t4 .nil) (.s (.s (.s (.s (.s .z)))))<|zi<|ze<|zL<|zQb (qF true w37 w311 (Rat.divInt x1 x2)) (qF_close 2 0 rfl rfl (by exact ⟨hr1,hr2,Nat.le_trans (Big.hq_divInt hd) om⟩)) ?_
  exact zx Tryz.results72 (w37,w311) trivial (zv 5 ty43 rfl rfl (.t4 .nil)) rfl (ho:=oN) (s0 rfl)
 ·
  have hs:0<x2:=by rcases Big.sign_le (x:=x2) with h|h|h <;> omega
  have hgp:=Big.gcd_pos_right (n:=x1) (d:=x2) om
  have hgl:=Big.zLd (n:=x1) (d:=x2) om
  obtain ⟨hr1,hr2⟩:=Big.red_pos (n:=x1) hs
  refine zC<|ze<|zh<|za<|e_ru (zb 3 ty41 rfl rfl (.t2 .nil))<|e_ru (zb 0 ty41 rfl rfl (.t2 .nil))<|zG rfl rfl (.c rfl (.c rfl .n)) ce110 (zwb (w1:=w1) (w2:=w34) (x1:=x1) (x2:=((Nat.gcd x1.natAbs x2.natAbs:Nat):Int)) (hb1:=by first|rfl|assumption|omega|(rw [yp];omega)|(decide +kernel)) (hb2:=by first|rfl|assumption|omega|(rw [yp];omega)|(decide +kernel)) (hy:=by first|rfl|assumption|omega|(rw [yp];omega)|(decide +kernel))) (.c (j:=1) rfl (.c (j:=0) rfl .n)) ?_
  rintro ⟨w315,w416⟩ -
  dsimp only [aq,nq,cq]
  refine e_mv rfl<|e_p (zA rfl rfl)<|e_p (zA rfl rfl)<|e_p (zA rfl rfl)<|zP rfl rfl (zn zr41 rfl) (fun b17=> ?_)
  refine zP rfl rfl (zn zr41 rfl) (fun b18=> ?_)
  refine zm 1 rfl rfl rfl rfl rfl sz41 rfl (.t2 .nil) (.s .z)<|zm 0 rfl rfl rfl rfl rfl sz41 rfl (.t2 .nil) .z<|e_p (zd rfl)<|zi<|ze<|zh<|za<|e_ru (zb 4 ty41 rfl rfl (.t2 .nil))<|e_ru (zb 2 ty41 rfl rfl (.t2 .nil))<|zG rfl rfl (.c rfl (.c rfl .n)) ce110 (zwb (w1:=w2) (w2:=w34) (x1:=x2) (x2:=((Nat.gcd x1.natAbs x2.natAbs:Nat):Int)) (hb1:=by first|rfl|assumption|omega|(rw [yp];omega)|(decide +kernel)) (hb2:=by first|rfl|assumption|omega|(rw [yp];omega)|(decide +kernel)) (hy:=by first|rfl|assumption|omega|(rw [yp];omega)|(decide +kernel))) (.c (j:=4) rfl (.c (j:=2) rfl .n)) ?_
  rintro ⟨w319,w420⟩ -
  dsimp only [aq,nq,cq]
  refine e_mv rfl<|e_p (zA rfl rfl)<|e_p (zA rfl rfl)<|e_p (zA rfl rfl)<|zP rfl rfl (zn zr41 rfl) (fun b21=> ?_)
  refine zP rfl rfl (zn zr41 rfl) (fun b22=> ?_)
  refine zm 1 rfl rfl rfl rfl rfl sz41 rfl (.t2 .nil) (.s .z)<|zm 0 rfl rfl rfl rfl rfl sz41 rfl (.t2 .nil) .z<|e_p (zd rfl)<|zi<|ze<|zh<|za<|e_ru (zb 3 ty41 rfl rfl (.t2 .nil))<|e_ru (zb 1 ty41 rfl rfl (.t2 .nil))<|e_p (zK zr43 rfl yf (.c sz41 (.c sz41 .n)) (.c rfl (.c rfl .n)) (.c rfl rfl rfl (.t2 .nil) (.c rfl rfl rfl (.s2 (.t2 .nil)) .n)))<|zm 5 rfl rfl rfl rfl rfl sz43 rfl (.t4 .nil) (.s (.s (.s (.s (.s .z)))))<|zi<|ze<|zL<|zQb (qF true w315 w319 (Rat.divInt x1 x2)) (qF_close 2 0 rfl rfl (by exact ⟨hr1,hr2,Nat.le_trans (Big.hq_divInt hd) om⟩)) ?_
  exact zx Tryz.results72 (w315,w319) trivial (zv 5 ty43 rfl rfl (.t4 .nil)) rfl (ho:=oN) (s0 rfl)
theorem zPe {w1:Wd} {w2:Wd} {x1:Int} {x2:Int} (hl1:ym x1≤1099511627776) (hl2:ym x2≤1099511627776):Con yk 127 [.agg #[w1.b,w1.l],.agg #[w2.b,w2.l]] [] [zF w1 x1,zF w2 x2] (Y:=Wd×Wd) (fun y=>True) (fun y=> .tuple #[.agg #[y.1.b,y.1.l,y.2.b,y.2.l],ya yb (if x2=0 then 14 else 0)]) (fun y=>[]) (fun y=>[qF (decide (x2≠0)) y.1 y.2 (Rat.divInt x1 x2)]):=by
 refine zo Tryz.func127 rfl rfl rfl (fun c=> ?_)
 show RunC _ _ _ _ _ [(0,.agg #[w1.b,w1.l]),(1,.agg #[w2.b,w2.l])] [] [zF w1 x1,zF w2 x2]
 refine zh<|za<|zP rfl rfl (zS rfl rfl) (fun b1=> ?_)
 refine zP rfl rfl (zS rfl rfl) (fun b2=> ?_)
 refine zP rfl rfl (zn zr43 rfl) (fun b3=> ?_)
 refine e_p (zd rfl)<|zi<|ze<|zh<|zh<|za<|e_ru (zb 1 ty41 rfl rfl (.t2 .nil))<|zQ rfl rfl (.c rfl .n) ce105 (zyc (w1:=w2) (x1:=x2) (hln:=by first|rfl|assumption|omega|(rw [yp];omega)|(decide +kernel))) (.c (j:=1) rfl .n)<|e_p (zxa rfl rfl)<|zi<|ze<|zJ rfl (fun hz0=> ?_) (fun hz0=> ?_)
 ·
  have hx0:x2=0:=Big.sign_zero.1 hz0
  refine zh<|za<|e_p (zK zr43 rfl yf (.c sz41 (.c sz41 .n)) .n .n)<|zm 0 rfl rfl rfl rfl rfl sz43 rfl (.t4 .nil) .z<|e_p (zd rfl)<|zi<|ze<|zL<|zj<|zQb (qF false wz wz 0) (fun g _=>qF_none g) ?_
  exact zBa Tryz.results127 (wz,wz) trivial (zv 0 ty43 rfl rfl (.t4 .nil)) (zl rfl) (by rw [if_pos hx0];rfl) (ho:=oN) ((.e (j:=0) rfl (by rw [Big.divInt_nil hx0,decide_eq_false (not_not_intro hx0)]) .n):SelR _ _ _)
 ·
  have hx0:x2≠0:=fun e=>hz0 (Big.sign_zero.2 e)
  refine zC<|ze<|zh<|za<|e_ru (zb 2 ty41 rfl rfl (.t2 .nil))<|e_ru (zb 1 ty41 rfl rfl (.t2 .nil))<|zG rfl rfl (.c rfl (.c rfl .n)) ce72 (zUb (w1:=w1) (w2:=w2) (x1:=x1) (x2:=x2) (hl1:=ass) (hl2:=ass) (hd:=by first|rfl|assumption|omega|(rw [yp];omega)|(decide +kernel))) (.c (j:=0) rfl (.c (j:=1) rfl .n)) ?_
  rintro ⟨w34,w45⟩ -
  dsimp only [aq,nq,cq]
  refine zm 0 rfl rfl rfl rfl rfl sz43 rfl (.t4 .nil) .z<|e_p (zd rfl)<|zi<|ze<|zL ?_
  exact zBa Tryz.results127 (w34,w45) trivial (zv 0 ty43 rfl rfl (.t4 .nil)) (zl rfl) (by rw [if_neg hx0]) (ho:=oN) ((.e (j:=0) rfl (by rw [decide_eq_true hx0]) .n):SelR _ _ _)
theorem zfg {z1:Int} {z2:Int} (hz1: -9223372036854775808≤z1∧z1≤9223372036854775807) (hz2: -9223372036854775808≤z2∧z2≤9223372036854775807):Con yk 107 [ya yb z1,ya yb z2] [] [] (Y:=Wd×Wd) (fun y=>True) (fun y=> .tuple #[.agg #[y.1.b,y.1.l,y.2.b,y.2.l],ya yb (if z2=0 then 14 else 0)]) (fun y=>[]) (fun y=>[qF (decide (z2≠0)) y.1 y.2 (Rat.divInt z1 z2)]):=by
 refine zo Tryz.func107 rfl rfl rfl (fun c=> ?_)
 show RunC _ _ _ _ _ [(0,ya yb z1),(1,ya yb z2)] [] []
 have g1:=Big.zsg hz1.1 hz1.2
 have g2:=Big.zsg hz2.1 hz2.2
 refine zh<|za<|zP rfl rfl (zn zr43 rfl) (fun b1=> ?_)
 refine e_p (zd rfl)<|zi<|ze<|zh<|za<|e_mv rfl<|zG rfl rfl (.c rfl .n) ce74 (zLb (z:=z1) (hz:=ass)) (.n) ?_
 rintro w32 -
 dsimp only [aq,nq,cq]
 refine e_mv rfl<|zG rfl rfl (.c rfl .n) ce74 (zLb (z:=z2) (hz:=ass)) (.n) ?_
 rintro w33 -
 dsimp only [aq,nq,cq]
 refine zG rfl rfl (.c rfl (.c rfl .n)) ce127 (zPe (w1:=w32) (w2:=w33) (x1:=z1) (x2:=z2) (hl1:=by first|rfl|assumption|omega|(rw [yp];omega)|(decide +kernel)) (hl2:=by first|rfl|assumption|omega|(rw [yp];omega)|(decide +kernel))) (.c (j:=1) rfl (.c (j:=0) rfl .n)) ?_
 rintro ⟨w34,w45⟩ -
 dsimp only [aq,nq,cq]
 refine e_p (zA rfl rfl)<|e_p (zA rfl rfl)<|zm 0 rfl rfl rfl rfl rfl sz43 rfl (.t4 .nil) .z<|e_p (zd rfl)<|zi<|ze<|zL ?_
 exact zBa Tryz.results107 (w34,w45) trivial (zv 0 ty43 rfl rfl (.t4 .nil)) (zl rfl) rfl (ho:=oN) (s0 rfl)
theorem zZe {z1:Int} {z2:Int} (hz1: -9223372036854775808≤z1∧z1≤9223372036854775807) (hz2: -9223372036854775808≤z2∧z2≤9223372036854775807) (hy:z2≠0):Con yk 107 [ya yb (z1),ya yb (z2)] [] [] (Y:=(Wd)×(Wd)) (fun y=>True) (fun y=> .tuple #[.agg #[y.1.b,y.1.l,y.2.b,y.2.l],ya yb (0)]) (fun y=>[]) (fun y=>[qF true y.1 y.2 (Rat.divInt z1 z2)]):=by
  have h:=zfg hz1 hz2
  rw [if_neg hy,decide_eq_true hy] at h
  exact h
theorem zDb {k1:Bool} {u1:Wd} {v1:Wd} {q1:Rat} (hl:yz q1≤1099511627776):Con yk 66 [.agg #[u1.b,u1.l,v1.b,v1.l]] [] [qF k1 u1 v1 q1] (Y:=Unit) (fun y=>True) (fun y=> ya yb (yN q1)) (fun y=>[]) (fun y=>[]):=by
 refine zo Tryz.func66 rfl rfl rfl (fun c=> ?_)
 show RunC _ _ _ _ _ [(0,.agg #[u1.b,u1.l,v1.b,v1.l])] [] [qF k1 u1 v1 q1]
 have a1:=yC q1
 have a2:=yD q1
 refine zh<|za<|zP rfl rfl (zS rfl rfl) (fun b1=> ?_)
 refine e_p (zd rfl)<|zi<|ze<|zh<|za<|e_ru (zb 0 ty43 rfl rfl (.t4 .nil))<|zG rfl rfl (.c rfl .n) ce68 (zLa (k1:=k1) (u1:=u1) (v1:=v1) (q1:=q1)) (.c (j:=0) rfl .n) ?_
 rintro ⟨w32,w43⟩ -
 dsimp only [aq,nq,cq]
 refine e_p (zDc yf rfl ty41 rfl (.t2 .nil))<|zCc (qF_open 0 rfl) (fun _ _=> ?_)
 refine zQ rfl rfl (.c rfl .n) ce105 (zyc (w1:=w32) (x1:=(q1).num) (hln:=by first|rfl|assumption|omega|(rw [yp];omega)|(decide +kernel))) (.c (j:=0) rfl .n)<|e_p (zd rfl)<|zi<|ze<|zL ?_
 exact zx Tryz.results66 () trivial (zl rfl) rfl (ho:=oN) sN
theorem zWd {k1:Bool} {u1:Wd} {v1:Wd} {q1:Rat} (hl:yz q1≤1099511627776):Con yk 67 [.agg #[u1.b,u1.l,v1.b,v1.l]] [] [qF k1 u1 v1 q1] (Y:=Wd×Wd) (fun y=>True) (fun y=> .agg #[y.1.b,y.1.l,y.2.b,y.2.l]) (fun y=>[]) (fun y=>[qF true y.1 y.2 (- q1)]):=by
 refine zo Tryz.func67 rfl rfl rfl (fun c=> ?_)
 show RunC _ _ _ _ _ [(0,.agg #[u1.b,u1.l,v1.b,v1.l])] [] [qF k1 u1 v1 q1]
 have a1:=yC q1
 have a2:=yD q1
 refine zh<|za<|zP rfl rfl (zS rfl rfl) (fun b1=> ?_)
 refine zP rfl rfl (zn zr43 rfl) (fun b2=> ?_)
 refine zi<|ze<|zh<|za<|e_ru (zb 1 ty43 rfl rfl (.t4 .nil))<|zG rfl rfl (.c rfl .n) ce68 (zLa (k1:=k1) (u1:=u1) (v1:=v1) (q1:=q1)) (.c (j:=0) rfl .n) ?_
 rintro ⟨w33,w44⟩ -
 dsimp only [aq,nq,cq]
 refine zP rfl rfl (zn zr43 rfl) (fun b5=> ?_)
 refine zm 0 rfl rfl rfl rfl rfl sz43 rfl (.t4 .nil) .z<|zi<|ze<|zh<|zwa (.c (i:=1) rfl (.c (i:=0) rfl (.c (i:=0) rfl .n)))<|zY (OW:=[boxA b2 43 (cw [wz,wz])]) (O:=[boxA b5 43 (cw [w33,w44]),boxA b1 43 (cw [u1,v1])]) 6 mixed (.then .ret) kr<|e_pv 0 rfl rfl (zf yf rfl sz41 rfl rfl)<|e_uw 1 rfl rfl (zb 1 ty41 rfl rfl (.t2 .nil))<|e_pv 3 rfl rfl (zf yf rfl sz41 rfl rfl)<|e_uw 4 rfl rfl (zb 1 ty41 rfl rfl (.s2 (.t2 .nil)))<|zvb (qF_open 0 rfl) (fun _ _=> ?_)
 refine e_one 2 (zq rfl rfl rfl rfl (.c rfl .n) ce106 (zQd (w1:=w33) (x1:=(q1).num) (hln:=by first|rfl|assumption|omega|(rw [yp];omega)|(decide +kernel))) (.c (j:=0) rfl .n) ?_)
 rintro w36 -
 dsimp only [aq,nq,cq]
 refine e_pv 5 rfl rfl (zK zr43 rfl yf (.c sz41 (.c sz41 .n)) (.c rfl (.c rfl .n)) (.c rfl rfl rfl (.t2 .nil) (.c rfl rfl rfl (.s2 (.t2 .nil)) .n)))<|e_one 6 (zr kr rfl rfl rfl rfl rfl sz43 rfl (.t4 .nil) ?_)
 refine zW kr<|ze<|zL<|zQb (qF true w36 w44 (- q1)) (qF_close 0 2 rfl rfl (by exact ⟨(Rat.neg_num q1).symm,by rw [Rat.neg_den],by rw [Big.hq_neg];exact hl⟩)) ?_
 exact zx Tryz.results67 (w36,w44) trivial (zv 0 ty43 rfl rfl (.t4 .nil)) rfl (ho:=oN) (s0 rfl)
theorem zEb {k1:Bool} {u1:Wd} {v1:Wd} {q1:Rat} {k2:Bool} {u2:Wd} {v2:Wd} {q2:Rat} (hl:yz q1+yz q2+1≤1099511627776):Con yk 70 [.agg #[u1.b,u1.l,v1.b,v1.l],.agg #[u2.b,u2.l,v2.b,v2.l]] [] [qF k1 u1 v1 q1,qF k2 u2 v2 q2] (Y:=Wd×Wd) (fun y=>True) (fun y=> .agg #[y.1.b,y.1.l,y.2.b,y.2.l]) (fun y=>[]) (fun y=>[qF true y.1 y.2 (q1+q2)]):=by
 refine zo Tryz.func70 rfl rfl rfl (fun c=> ?_)
 show RunC _ _ _ _ _ [(0,.agg #[u1.b,u1.l,v1.b,v1.l]),(1,.agg #[u2.b,u2.l,v2.b,v2.l])] [] [qF k1 u1 v1 q1,qF k2 u2 v2 q2]
 have a1:=yC q1
 have a2:=yD q1
 have a3:=yC q2
 have a4:=yD q2
 have b1:=yJ q1.num q2.den
 have b2:=yJ q2.num q1.den
 have b3:=Big.zTc (q1.num*q2.den) (q2.num*q1.den)
 have b4:=yJ (q1.den:Int) q2.den
 have b5:=yJ q1.num q2.num
 refine zh<|za<|zP rfl rfl (zS rfl rfl) (fun b1=> ?_)
 refine zP rfl rfl (zS rfl rfl) (fun b2=> ?_)
 refine zP rfl rfl (zn zr43 rfl) (fun b3=> ?_)
 refine zi<|ze<|zh<|za<|e_ru (zb 2 ty43 rfl rfl (.t4 .nil))<|zG rfl rfl (.c rfl .n) ce68 (zLa (k1:=k1) (u1:=u1) (v1:=v1) (q1:=q1)) (.c (j:=0) rfl .n) ?_
 rintro ⟨w34,w45⟩ -
 dsimp only [aq,nq,cq]
 refine zP rfl rfl (zn zr43 rfl) (fun b6=> ?_)
 refine zm 0 rfl rfl rfl rfl rfl sz43 rfl (.t4 .nil) .z<|zi<|ze<|zh<|za<|e_ru (zb 2 ty43 rfl rfl (.t4 .nil))<|zG rfl rfl (.c rfl .n) ce68 (zLa (k1:=k2) (u1:=u2) (v1:=v2) (q1:=q2)) (.c (j:=2) rfl .n) ?_
 rintro ⟨w37,w48⟩ -
 dsimp only [aq,nq,cq]
 refine zP rfl rfl (zn zr43 rfl) (fun b9=> ?_)
 refine zm 0 rfl rfl rfl rfl rfl sz43 rfl (.t4 .nil) .z<|zi<|ze<|zh<|zwa (.c (i:=2) rfl (.c (i:=0) rfl (.c (i:=0) rfl (.c (i:=0) rfl (.c (i:=0) rfl .n)))))<|zY (OW:=[boxA b3 43 (cw [wz,wz])]) (O:=[boxA b9 43 (cw [w37,w48]),boxA b6 43 (cw [w34,w45]),boxA b2 43 (cw [u2,v2]),boxA b1 43 (cw [u1,v1])]) 17 mixed (.then .ret) kr<|e_pv 0 rfl rfl (zf yf rfl sz41 rfl rfl)<|e_uw 1 rfl rfl (zb 2 ty41 rfl rfl (.t2 .nil))<|e_pv 2 rfl rfl (zf yf rfl sz41 rfl rfl)<|e_uw 3 rfl rfl (zb 1 ty41 rfl rfl (.s2 (.t2 .nil)))<|e_pv 5 rfl rfl (zf yf rfl sz41 rfl rfl)<|e_uw 6 rfl rfl (zb 1 ty41 rfl rfl (.t2 .nil))<|e_pv 7 rfl rfl (zf yf rfl sz41 rfl rfl)<|e_uw 8 rfl rfl (zb 2 ty41 rfl rfl (.s2 (.t2 .nil)))<|e_pv 11 rfl rfl (zf yf rfl sz41 rfl rfl)<|e_uw 12 rfl rfl (zb 2 ty41 rfl rfl (.s2 (.t2 .nil)))<|e_pv 13 rfl rfl (zf yf rfl sz41 rfl rfl)<|e_uw 14 rfl rfl (zb 1 ty41 rfl rfl (.s2 (.t2 .nil)))<|zvb (qF_open 1 rfl) (fun _ _=> ?_)
 refine zvb (qF_open 2 rfl) (fun _ _=> ?_)
 refine e_one 4 (zq rfl rfl rfl rfl (.c rfl (.c rfl .n)) ce73 (ztb (w1:=w34) (w2:=w48) (x1:=(q1).num) (x2:=(((q2).den:Nat):Int)) (hb1:=by first|rfl|assumption|omega|(rw [yp];omega)|(decide +kernel)) (hb2:=by first|rfl|assumption|omega|(rw [yp];omega)|(decide +kernel))) (.c (j:=2) rfl (.c (j:=1) rfl .n)) ?_)
 rintro w310 -
 dsimp only [aq,nq,cq]
 refine e_one 9 (zq rfl rfl rfl rfl (.c rfl (.c rfl .n)) ce73 (ztb (w1:=w37) (w2:=w45) (x1:=(q2).num) (x2:=(((q1).den:Nat):Int)) (hb1:=by first|rfl|assumption|omega|(rw [yp];omega)|(decide +kernel)) (hb2:=by first|rfl|assumption|omega|(rw [yp];omega)|(decide +kernel))) (.c (j:=1) rfl (.c (j:=4) rfl .n)) ?_)
 rintro w311 -
 dsimp only [aq,nq,cq]
 refine e_one 10 (zq rfl rfl rfl rfl (.c rfl (.c rfl .n)) ce108 (zJf (w1:=w310) (w2:=w311) (x1:=((q1).num)*(((q2).den:Nat):Int)) (x2:=((q2).num)*(((q1).den:Nat):Int)) (hb1:=by first|rfl|assumption|omega|(rw [yp];omega)|(decide +kernel)) (hb2:=by first|rfl|assumption|omega|(rw [yp];omega)|(decide +kernel))) (.c (j:=1) rfl (.c (j:=0) rfl .n)) ?_)
 rintro w312 -
 dsimp only [aq,nq,cq]
 refine e_one 15 (zq rfl rfl rfl rfl (.c rfl (.c rfl .n)) ce73 (ztb (w1:=w45) (w2:=w48) (x1:=(((q1).den:Nat):Int)) (x2:=(((q2).den:Nat):Int)) (hb1:=by first|rfl|assumption|omega|(rw [yp];omega)|(decide +kernel)) (hb2:=by first|rfl|assumption|omega|(rw [yp];omega)|(decide +kernel))) (.c (j:=6) rfl (.c (j:=4) rfl .n)) ?_)
 rintro w313 -
 dsimp only [aq,nq,cq]
 refine e_one 16 (zq rfl rfl rfl rfl (.c rfl (.c rfl .n)) ce72 (zUb (w1:=w312) (w2:=w313) (x1:=(((q1).num)*(((q2).den:Nat):Int))+(((q2).num)*(((q1).den:Nat):Int))) (x2:=(((q1).den:Nat):Int)*(((q2).den:Nat):Int)) (hl1:=by first|rfl|assumption|omega|(rw [yp];omega)|(decide +kernel)) (hl2:=by first|rfl|assumption|omega|(rw [yp];omega)|(decide +kernel)) (hd:=by exact Int.mul_ne_zero (Big.den_ne q1) (Big.den_ne q2))) (.c (j:=1) rfl (.c (j:=0) rfl .n)) ?_)
 rintro ⟨w314,w415⟩ -
 dsimp only [aq,nq,cq]
 refine e_one 17 (zr kr rfl rfl rfl rfl rfl sz43 rfl (.t4 .nil) ?_)
 refine zW kr<|ze<|zL ?_
 exact zx Tryz.results70 (w314,w415) trivial (zv 0 ty43 rfl rfl (.t4 .nil)) rfl (ho:=oN) ((.e (j:=0) rfl (by rw [Big.add_parts]) .n):SelR _ _ _)
theorem zSa {k1:Bool} {u1:Wd} {v1:Wd} {q1:Rat} {k2:Bool} {u2:Wd} {v2:Wd} {q2:Rat} (hl:yz q1+yz q2+1≤1099511627776):Con yk 25 [.agg #[u1.b,u1.l,v1.b,v1.l],.agg #[u2.b,u2.l,v2.b,v2.l]] [] [qF k1 u1 v1 q1,qF k2 u2 v2 q2] (Y:=Wd×Wd) (fun y=>True) (fun y=> .agg #[y.1.b,y.1.l,y.2.b,y.2.l]) (fun y=>[]) (fun y=>[qF true y.1 y.2 (q1*q2)]):=by
 refine zo Tryz.func25 rfl rfl rfl (fun c=> ?_)
 show RunC _ _ _ _ _ [(0,.agg #[u1.b,u1.l,v1.b,v1.l]),(1,.agg #[u2.b,u2.l,v2.b,v2.l])] [] [qF k1 u1 v1 q1,qF k2 u2 v2 q2]
 have a1:=yC q1
 have a2:=yD q1
 have a3:=yC q2
 have a4:=yD q2
 have b1:=yJ q1.num q2.den
 have b2:=yJ q2.num q1.den
 have b3:=Big.zTc (q1.num*q2.den) (q2.num*q1.den)
 have b4:=yJ (q1.den:Int) q2.den
 have b5:=yJ q1.num q2.num
 refine zh<|za<|zP rfl rfl (zS rfl rfl) (fun b1=> ?_)
 refine zP rfl rfl (zS rfl rfl) (fun b2=> ?_)
 refine zP rfl rfl (zn zr43 rfl) (fun b3=> ?_)
 refine zi<|ze<|zh<|za<|e_ru (zb 2 ty43 rfl rfl (.t4 .nil))<|zG rfl rfl (.c rfl .n) ce68 (zLa (k1:=k1) (u1:=u1) (v1:=v1) (q1:=q1)) (.c (j:=0) rfl .n) ?_
 rintro ⟨w34,w45⟩ -
 dsimp only [aq,nq,cq]
 refine zP rfl rfl (zn zr43 rfl) (fun b6=> ?_)
 refine zm 0 rfl rfl rfl rfl rfl sz43 rfl (.t4 .nil) .z<|zi<|ze<|zh<|za<|e_ru (zb 2 ty43 rfl rfl (.t4 .nil))<|zG rfl rfl (.c rfl .n) ce68 (zLa (k1:=k2) (u1:=u2) (v1:=v2) (q1:=q2)) (.c (j:=2) rfl .n) ?_
 rintro ⟨w37,w48⟩ -
 dsimp only [aq,nq,cq]
 refine zP rfl rfl (zn zr43 rfl) (fun b9=> ?_)
 refine zm 0 rfl rfl rfl rfl rfl sz43 rfl (.t4 .nil) .z<|zi<|ze<|zh<|zwa (.c (i:=2) rfl (.c (i:=0) rfl (.c (i:=0) rfl (.c (i:=0) rfl (.c (i:=0) rfl .n)))))<|zY (OW:=[boxA b3 43 (cw [wz,wz])]) (O:=[boxA b9 43 (cw [w37,w48]),boxA b6 43 (cw [w34,w45]),boxA b2 43 (cw [u2,v2]),boxA b1 43 (cw [u1,v1])]) 11 mixed (.then .ret) kr<|e_pv 0 rfl rfl (zf yf rfl sz41 rfl rfl)<|e_uw 1 rfl rfl (zb 2 ty41 rfl rfl (.t2 .nil))<|e_pv 2 rfl rfl (zf yf rfl sz41 rfl rfl)<|e_uw 3 rfl rfl (zb 1 ty41 rfl rfl (.t2 .nil))<|e_pv 5 rfl rfl (zf yf rfl sz41 rfl rfl)<|e_uw 6 rfl rfl (zb 2 ty41 rfl rfl (.s2 (.t2 .nil)))<|e_pv 7 rfl rfl (zf yf rfl sz41 rfl rfl)<|e_uw 8 rfl rfl (zb 1 ty41 rfl rfl (.s2 (.t2 .nil)))<|zvb (qF_open 1 rfl) (fun _ _=> ?_)
 refine zvb (qF_open 2 rfl) (fun _ _=> ?_)
 refine e_one 4 (zq rfl rfl rfl rfl (.c rfl (.c rfl .n)) ce73 (ztb (w1:=w34) (w2:=w37) (x1:=(q1).num) (x2:=(q2).num) (hb1:=by first|rfl|assumption|omega|(rw [yp];omega)|(decide +kernel)) (hb2:=by first|rfl|assumption|omega|(rw [yp];omega)|(decide +kernel))) (.c (j:=2) rfl (.c (j:=0) rfl .n)) ?_)
 rintro w310 -
 dsimp only [aq,nq,cq]
 refine e_one 9 (zq rfl rfl rfl rfl (.c rfl (.c rfl .n)) ce73 (ztb (w1:=w45) (w2:=w48) (x1:=(((q1).den:Nat):Int)) (x2:=(((q2).den:Nat):Int)) (hb1:=by first|rfl|assumption|omega|(rw [yp];omega)|(decide +kernel)) (hb2:=by first|rfl|assumption|omega|(rw [yp];omega)|(decide +kernel))) (.c (j:=4) rfl (.c (j:=2) rfl .n)) ?_)
 rintro w311 -
 dsimp only [aq,nq,cq]
 refine e_one 10 (zq rfl rfl rfl rfl (.c rfl (.c rfl .n)) ce72 (zUb (w1:=w310) (w2:=w311) (x1:=((q1).num)*((q2).num)) (x2:=(((q1).den:Nat):Int)*(((q2).den:Nat):Int)) (hl1:=by first|rfl|assumption|omega|(rw [yp];omega)|(decide +kernel)) (hl2:=by first|rfl|assumption|omega|(rw [yp];omega)|(decide +kernel)) (hd:=by exact Int.mul_ne_zero (Big.den_ne q1) (Big.den_ne q2))) (.c (j:=1) rfl (.c (j:=0) rfl .n)) ?_)
 rintro ⟨w312,w413⟩ -
 dsimp only [aq,nq,cq]
 refine e_one 11 (zr kr rfl rfl rfl rfl rfl sz43 rfl (.t4 .nil) ?_)
 refine zW kr<|ze<|zL ?_
 exact zx Tryz.results25 (w312,w413) trivial (zv 0 ty43 rfl rfl (.t4 .nil)) rfl (ho:=oN) ((.e (j:=0) rfl (by rw [Big.mul_parts]) .n):SelR _ _ _)
theorem zCa {k1:Bool} {u1:Wd} {v1:Wd} {q1:Rat} {k2:Bool} {u2:Wd} {v2:Wd} {q2:Rat} (hl:yz q1+yz q2+1≤1099511627776):Con yk 71 [.agg #[u1.b,u1.l,v1.b,v1.l],.agg #[u2.b,u2.l,v2.b,v2.l]] [] [qF k1 u1 v1 q1,qF k2 u2 v2 q2] (Y:=Wd×Wd) (fun y=>True) (fun y=> .agg #[y.1.b,y.1.l,y.2.b,y.2.l]) (fun y=>[]) (fun y=>[qF true y.1 y.2 (q1 - q2)]):=by
 refine zo Tryz.func71 rfl rfl rfl (fun c=> ?_)
 show RunC _ _ _ _ _ [(0,.agg #[u1.b,u1.l,v1.b,v1.l]),(1,.agg #[u2.b,u2.l,v2.b,v2.l])] [] [qF k1 u1 v1 q1,qF k2 u2 v2 q2]
 have a1:=yC q1
 have a2:=yD q1
 have a3:=yC q2
 have a4:=yD q2
 refine zh<|za<|zP rfl rfl (zS rfl rfl) (fun b1=> ?_)
 refine zP rfl rfl (zS rfl rfl) (fun b2=> ?_)
 refine zP rfl rfl (zn zr43 rfl) (fun b3=> ?_)
 refine zi<|ze<|zh<|zY (OW:=[boxA b3 43 (cw [wz,wz])]) (O:=[boxA b2 43 (cw [u2,v2]),boxA b1 43 (cw [u1,v1])]) 4 mixed (.then .ret) kr<|e_uw 0 rfl rfl (zb 2 ty43 rfl rfl (.t4 .nil))<|e_uw 1 rfl rfl (zb 1 ty43 rfl rfl (.t4 .nil))<|e_one 2 (zq rfl rfl rfl rfl (.c rfl .n) ce67 (zWd (k1:=k2) (u1:=u2) (v1:=v2) (q1:=q2) (hl:=by first|rfl|assumption|omega|(rw [yp];omega)|(decide +kernel)|(rw [Big.hq_neg];omega))) (.c (j:=1) rfl .n) ?_)
 rintro ⟨w34,w45⟩ -
 dsimp only [aq,nq,cq]
 refine e_one 3 (zq rfl rfl rfl rfl (.c rfl (.c rfl .n)) ce70 (zEb (k1:=k1) (u1:=u1) (v1:=v1) (q1:=q1) (k2:=true) (u2:=w34) (v2:=w45) (q2:= - q2) (hl:=by first|rfl|assumption|omega|(rw [yp];omega)|(decide +kernel)|(rw [Big.hq_neg];omega))) (.c (j:=1) rfl (.c (j:=0) rfl .n)) ?_)
 rintro ⟨w36,w47⟩ -
 dsimp only [aq,nq,cq]
 refine e_one 4 (zr kr rfl rfl rfl rfl rfl sz43 rfl (.t4 .nil) ?_)
 refine zW kr<|ze<|zL ?_
 exact zx Tryz.results71 (w36,w47) trivial (zv 0 ty43 rfl rfl (.t4 .nil)) rfl (ho:=oN) ((.e (j:=0) rfl (by rw [Rat.sub_eq_add_neg]) .n):SelR _ _ _)
theorem zMb {k1:Bool} {u1:Wd} {v1:Wd} {q1:Rat} {k2:Bool} {u2:Wd} {v2:Wd} {q2:Rat} (hl:yz q1+yz q2+1≤1099511627776):Con yk 27 [.agg #[u1.b,u1.l,v1.b,v1.l],.agg #[u2.b,u2.l,v2.b,v2.l]] [] [qF k1 u1 v1 q1,qF k2 u2 v2 q2] (Y:=Unit) (fun y=>True) (fun y=> ya yb (yN (q1 - q2))) (fun y=>[]) (fun y=>[]):=by
 refine zo Tryz.func27 rfl rfl rfl (fun c=> ?_)
 show RunC _ _ _ _ _ [(0,.agg #[u1.b,u1.l,v1.b,v1.l]),(1,.agg #[u2.b,u2.l,v2.b,v2.l])] [] [qF k1 u1 v1 q1,qF k2 u2 v2 q2]
 have hsb:=Big.hq_sub q1 q2
 refine zh<|za<|zP rfl rfl (zS rfl rfl) (fun b1=> ?_)
 refine zP rfl rfl (zS rfl rfl) (fun b2=> ?_)
 refine e_p (zd rfl)<|zi<|ze<|zh<|za<|e_ru (zb 1 ty43 rfl rfl (.t4 .nil))<|e_ru (zb 0 ty43 rfl rfl (.t4 .nil))<|zG rfl rfl (.c rfl (.c rfl .n)) ce71 (zCa (k1:=k1) (u1:=u1) (v1:=v1) (q1:=q1) (k2:=k2) (u2:=u2) (v2:=v2) (q2:=q2) (hl:=ass)) (.c (j:=0) rfl (.c (j:=1) rfl .n)) ?_
 rintro ⟨w33,w44⟩ -
 dsimp only [aq,nq,cq]
 refine zQ rfl rfl (.c rfl .n) ce66 (zDb (k1:=true) (u1:=w33) (v1:=w44) (q1:=q1 - q2) (hl:=by first|rfl|assumption|omega|(rw [yp];omega)|(decide +kernel))) (.c (j:=0) rfl .n)<|e_p (zd rfl)<|zi<|ze<|zL ?_
 exact zx Tryz.results27 () trivial (zl rfl) rfl (ho:=oN) sN
theorem zJc {k1:Bool} {u1:Wd} {v1:Wd} {q1:Rat} {k2:Bool} {u2:Wd} {v2:Wd} {q2:Rat} (hl:yz q1+yz q2+1≤1099511627776):Con yk 104 [.agg #[u1.b,u1.l,v1.b,v1.l],.agg #[u2.b,u2.l,v2.b,v2.l]] [] [qF k1 u1 v1 q1,qF k2 u2 v2 q2] (Y:=Wd×Wd) (fun y=>True) (fun y=> .tuple #[.agg #[y.1.b,y.1.l,y.2.b,y.2.l],ya yb (if q2=0 then 14 else 0)]) (fun y=>[]) (fun y=>[qF (decide (q2≠0)) y.1 y.2 (q1 / q2)]):=by
 refine zo Tryz.func104 rfl rfl rfl (fun c=> ?_)
 show RunC _ _ _ _ _ [(0,.agg #[u1.b,u1.l,v1.b,v1.l]),(1,.agg #[u2.b,u2.l,v2.b,v2.l])] [] [qF k1 u1 v1 q1,qF k2 u2 v2 q2]
 have a1:=yC q1
 have a2:=yD q1
 have a3:=yC q2
 have a4:=yD q2
 have b1:=yJ q1.num q2.den
 have b2:=yJ (q1.den:Int) q2.num
 refine zh<|za<|zP rfl rfl (zS rfl rfl) (fun b1=> ?_)
 refine zP rfl rfl (zS rfl rfl) (fun b2=> ?_)
 refine zP rfl rfl (zn zr43 rfl) (fun b3=> ?_)
 refine e_p (zd rfl)<|zi<|ze<|zh<|za<|e_ru (zb 2 ty43 rfl rfl (.t4 .nil))<|zG rfl rfl (.c rfl .n) ce68 (zLa (k1:=k1) (u1:=u1) (v1:=v1) (q1:=q1)) (.c (j:=0) rfl .n) ?_
 rintro ⟨w34,w45⟩ -
 dsimp only [aq,nq,cq]
 refine zP rfl rfl (zn zr43 rfl) (fun b6=> ?_)
 refine zm 0 rfl rfl rfl rfl rfl sz43 rfl (.t4 .nil) .z<|zi<|ze<|zh<|za<|e_ru (zb 2 ty43 rfl rfl (.t4 .nil))<|zG rfl rfl (.c rfl .n) ce68 (zLa (k1:=k2) (u1:=u2) (v1:=v2) (q1:=q2)) (.c (j:=2) rfl .n) ?_
 rintro ⟨w37,w48⟩ -
 dsimp only [aq,nq,cq]
 refine zP rfl rfl (zn zr43 rfl) (fun b9=> ?_)
 refine zm 0 rfl rfl rfl rfl rfl sz43 rfl (.t4 .nil) .z<|zi<|ze<|zh<|zwa (.c (i:=2) rfl (.c (i:=0) rfl (.c (i:=0) rfl (.c (i:=0) rfl (.c (i:=0) rfl .n)))))<|zY (OW:=[boxA b3 43 (cw [wz,wz])]) (O:=[boxA b9 43 (cw [w37,w48]),boxA b6 43 (cw [w34,w45]),boxA b2 43 (cw [u2,v2]),boxA b1 43 (cw [u1,v1])]) 13 mixed (.then .ret) kr<|e_pv 0 rfl rfl (zf yf rfl sz41 rfl rfl)<|e_uw 1 rfl rfl (zb 2 ty41 rfl rfl (.t2 .nil))<|e_pv 2 rfl rfl (zf yf rfl sz41 rfl rfl)<|e_uw 3 rfl rfl (zb 1 ty41 rfl rfl (.s2 (.t2 .nil)))<|e_pv 5 rfl rfl (zf yf rfl sz41 rfl rfl)<|e_uw 6 rfl rfl (zb 2 ty41 rfl rfl (.s2 (.t2 .nil)))<|e_pv 7 rfl rfl (zf yf rfl sz41 rfl rfl)<|e_uw 8 rfl rfl (zb 1 ty41 rfl rfl (.t2 .nil))<|zvb (qF_open 1 rfl) (fun _ _=> ?_)
 refine zvb (qF_open 2 rfl) (fun _ _=> ?_)
 refine e_one 4 (zq rfl rfl rfl rfl (.c rfl (.c rfl .n)) ce73 (ztb (w1:=w34) (w2:=w48) (x1:=(q1).num) (x2:=(((q2).den:Nat):Int)) (hb1:=by first|rfl|assumption|omega|(rw [yp];omega)|(decide +kernel)) (hb2:=by first|rfl|assumption|omega|(rw [yp];omega)|(decide +kernel))) (.c (j:=2) rfl (.c (j:=1) rfl .n)) ?_)
 rintro w310 -
 dsimp only [aq,nq,cq]
 refine e_one 9 (zq rfl rfl rfl rfl (.c rfl (.c rfl .n)) ce73 (ztb (w1:=w45) (w2:=w37) (x1:=(((q1).den:Nat):Int)) (x2:=(q2).num) (hb1:=by first|rfl|assumption|omega|(rw [yp];omega)|(decide +kernel)) (hb2:=by first|rfl|assumption|omega|(rw [yp];omega)|(decide +kernel))) (.c (j:=4) rfl (.c (j:=1) rfl .n)) ?_)
 rintro w311 -
 dsimp only [aq,nq,cq]
 refine e_one 10 (zq rfl rfl rfl rfl (.c rfl (.c rfl .n)) ce127 (zPe (w1:=w310) (w2:=w311) (x1:=((q1).num)*(((q2).den:Nat):Int)) (x2:=(((q1).den:Nat):Int)*((q2).num)) (hl1:=by first|rfl|assumption|omega|(rw [yp];omega)|(decide +kernel)) (hl2:=by first|rfl|assumption|omega|(rw [yp];omega)|(decide +kernel))) (.c (j:=1) rfl (.c (j:=0) rfl .n)) ?_)
 rintro ⟨w312,w413⟩ -
 dsimp only [aq,nq,cq]
 refine e_pv 11 rfl rfl (zA rfl rfl)<|e_pv 12 rfl rfl (zA rfl rfl)<|e_one 13 (zr kr rfl rfl rfl rfl rfl sz43 rfl (.t4 .nil) ?_)
 refine e_pv 14 rfl rfl (zd rfl)<|zW kr<|ze<|zL ?_
 have hi1:((q1.den:Int)*q2.num=0)=(q2=0):=propext (Big.den_zero q1 q2)
 exact zBa Tryz.results104 (w312,w413) trivial (zv 0 ty43 rfl rfl (.t4 .nil)) (zl rfl) (by simp only [hi1]) (ho:=oN) ((.e (j:=0) rfl (by rw [Big.div_any];simp only [ne_eq,hi1]) .n):SelR _ _ _)
theorem zzc {u1:Wd} {v1:Wd} {q1:Rat} {u2:Wd} {v2:Wd} {q2:Rat} (hl:yz q1+yz q2+1≤1099511627776):Con yk 44 [.agg #[u1.b,u1.l,v1.b,v1.l],.agg #[u2.b,u2.l,v2.b,v2.l]] [] [qF true u1 v1 q1,qF true u2 v2 q2] (Y:=Unit) (fun y=>True) (fun y=> .bool (decide (q1=q2))) (fun y=>[]) (fun y=>[]):=by
 refine zo Tryz.func44 rfl rfl rfl (fun c=> ?_)
 show RunC _ _ _ _ _ [(0,.agg #[u1.b,u1.l,v1.b,v1.l]),(1,.agg #[u2.b,u2.l,v2.b,v2.l])] [] [qF true u1 v1 q1,qF true u2 v2 q2]
 refine zh<|za<|zP rfl rfl (zS rfl rfl) (fun b1=> ?_)
 refine zP rfl rfl (zS rfl rfl) (fun b2=> ?_)
 refine e_p (zd rfl)<|zi<|ze<|zGa (X:=Unit) (fun x=>True) (fun x=>[(4,.bool (decide (yN (q1 - q2)=0)))]) (fun x=>[boxA b2 43 (cw [u2,v2]),boxA b1 43 (cw [u1,v1])]) (fun x=>[qF true u1 v1 q1,qF true u2 v2 q2]) ?_ ?_
 ·
  refine za<|e_ru (zb 1 ty43 rfl rfl (.t4 .nil))<|zQ rfl rfl (.c rfl .n) ce88 (zIc (u1:=u1) (v1:=v1) (q1:=q1)) (.c (j:=0) rfl .n)<|e_mv rfl<|e_ru (zb 0 ty43 rfl rfl (.t4 .nil))<|zQ rfl rfl (.c rfl .n) ce88 (zIc (u1:=u2) (v1:=v2) (q1:=q2)) (.c (j:=1) rfl .n)<|e_p (zp rfl rfl)<|e_mv rfl<|e_ru (zb 1 ty43 rfl rfl (.t4 .nil))<|e_ru (zb 0 ty43 rfl rfl (.t4 .nil))<|zQ rfl rfl (.c rfl (.c rfl .n)) ce27 (zMb (k1:=true) (u1:=u1) (v1:=v1) (q1:=q1) (k2:=true) (u2:=u2) (v2:=v2) (q2:=q2) (hl:=ass)) (.c (j:=0) rfl (.c (j:=1) rfl .n))<|e_p (zxa rfl rfl)<|e_p (zp rfl rfl)<|e_p (zd rfl)<|zi ?_
  exact zha () tt9 ((.c rfl .n):SubM _ _) (ho:=((.of [0,0] rfl):PickO _ _ _)) ((.of [0,1] rfl):SelR _ _ _)
 ·
  rintro ⟨⟩ -
  try dsimp only [cw]
  refine zL ?_
  exact zx Tryz.results44 () trivial (zl rfl) (congrArg Value.bool (decide_eq_decide.2 Big.sgq_sub_zero.symm)) (ho:=oN) sN
end Go.Proofs.YtjcpbhlijoigfaaGreat.Sp
namespace Go.Proofs.YtjcpbhlijoigfaaGreat.Sp
open Go
set_option linter.unusedVariables false
set_option maxRecDepth 100000
set_option maxHeartbeats 8000000
theorem zqe {z1:Int} {z2:Int} (hz1: -9223372036854775808≤z1∧z1≤9223372036854775807) (hz2: -9223372036854775808≤z2∧z2≤9223372036854775807) (hy:z2≠0):Con yk 69 [ya yb z1,ya yb z2] [] [] (Y:=Wd×Wd) (fun y=>True) (fun y=> .agg #[y.1.b,y.1.l,y.2.b,y.2.l]) (fun y=>[]) (fun y=>[qF true y.1 y.2 (Rat.divInt z1 z2)]):=by
 refine zo Tryz.func69 rfl rfl rfl (fun c=> ?_)
 show RunC _ _ _ _ _ [(0,ya yb z1),(1,ya yb z2)] [] []
 refine zh<|za<|zP rfl rfl (zn zr43 rfl) (fun b1=> ?_)
 refine zi<|ze<|zh<|za<|e_mv rfl<|e_mv rfl<|zG rfl rfl (.c rfl (.c rfl .n)) ce107 (zZe (z1:=z1) (z2:=z2) (hz1:=ass) (hz2:=ass) (hy:=ass)) (.n) ?_
 rintro ⟨w32,w43⟩ -
 dsimp only [aq,nq,cq]
 refine e_mv rfl<|e_p (zA rfl rfl)<|e_p (zA rfl rfl)<|zP rfl rfl (zn zr43 rfl) (fun b4=> ?_)
 refine zm 0 rfl rfl rfl rfl rfl sz43 rfl (.t4 .nil) .z<|e_p (zd rfl)<|zi<|ze<|zh<|za<|e_ru (zb 0 ty43 rfl rfl (.t4 .nil))<|zm 1 rfl rfl rfl rfl rfl sz43 rfl (.t4 .nil) (.s .z)<|zi<|ze<|zL ?_
 exact zx Tryz.results69 (w32,w43) trivial (zv 1 ty43 rfl rfl (.t4 .nil)) rfl (ho:=oN) (s0 rfl)
theorem zXd {p:Option Addr} {n:Nat} {cap:Nat} {l:List Pg.Q2} {K:Nat} (hn:l.length=n) (hbq:Pg.bq K l) (hK:4*K+1≤500000) (hz:∀i,i≤n→yz (Pg.szN n l i)≤100000000):Con yk 24 [.slice p n cap] [] [slF rR p cap l] (Y:=Wd×Wd) (fun y=>True) (fun y=> .agg #[y.1.b,y.1.l,y.2.b,y.2.l]) (fun y=>[]) (fun y=>[qF true y.1 y.2 (Pg.sz l)]):=by
 refine zo Tryz.func24 rfl rfl rfl (fun c=> ?_)
 show RunC _ _ _ _ _ [(0,.slice p n cap)] [] [slF rR p cap l]
 refine zea 0 rfl (fun hL0=> ?_)
 refine zh<|za<|zP rfl rfl (zn zr43 rfl) (fun b1=> ?_)
 refine zi<|ze<|zh<|za<|zG rfl rfl (.c rfl (.c rfl .n)) ce69 (zqe (z1:=0) (z2:=1) (hz1:=by first|rfl|assumption|omega|decide) (hz2:=by first|rfl|assumption|omega|decide) (hy:=by first|rfl|assumption|omega|decide)) (.n) ?_
 rintro ⟨w32,w43⟩ -
 dsimp only [aq,nq,cq]
 refine zP rfl rfl (zn zr43 rfl) (fun b4=> ?_)
 refine zm 0 rfl rfl rfl rfl rfl sz43 rfl (.t4 .nil) .z<|zi<|ze<|zh<|zh ?_
 have e5:Rat.divInt 0 1=(Pg.szN n l 0):=by exact Pg.d01
 rw [e5]
 refine za<|e_p (zd rfl)<|zi<|ze<|zE<|zra (X:=Nat×Wd×Wd) (fun x:Nat×Wd×Wd=>x.1≤n) (fun x=>[(4,ya yb ((x.1:Nat):Int)),(3,yc (some ⟨b4,0,none⟩)),(2,yc (some ⟨b1,0,none⟩)),(0,.slice p n cap)]) (fun x=>[boxA b4 43 (cw [x.2.1,x.2.2]),boxA b1 43 (cw [wz,wz])]) (fun x=>[qF true x.2.1 x.2.2 (Pg.szN n l x.1),qF true w32 w43 (Pg.szN n l 0),slF rR p cap l]) (fun x:Nat×Wd×Wd=>n - x.1) (0,w32,w43) (show 0≤n from by exact Nat.zero_le _) ((.e rfl cgs (.of rfl)):SubM _ _) (ho:=((.of [0,0] rfl):PickO _ _ _)) ((.of [0,0,1] rfl):SelR _ _ _) ?_
 rintro ⟨k,wk1,wk2⟩ hI
 replace hI:k≤n:=hI
 try dsimp only [cw]
 refine zh<|zh<|za<|e_mv rfl<|e_mv rfl<|e_p (zR yi rfl)<|e_p (zda rfl rfl)<|zi<|ze<|zJ rfl (fun h6=> ?_) (fun h6=> ?_)
 ·
  have hm1:(k+1)%n<n:=Nat.mod_lt _ om
  have hpi:Pg.hp K (ye l k):=Pg.bq_at hbq om
  have hpj:Pg.hp K (ye l ((k+1)%n)):=Pg.bq_at hbq om
  obtain ⟨hb1,hb2,hb3⟩:=Pg.pb hpi hpj
  obtain ⟨hpi1,hpi2⟩:=id hpi
  obtain ⟨hpj1,hpj2⟩:=id hpj
  have hzk:=hz k om
  have hb4:yz ((ye l k).1*(ye l ((k+1)%n)).2 - (ye l ((k+1)%n)).1*(ye l k).2)≤2*(K+K)+1:=hb3
  refine zC<|ze<|zh<|zE<|zh<|za<|e_mv rfl<|e_mv rfl<|e_p (zO (z:=(((k+1):Nat):Int)) rfl rfl (w64 om))<|e_mv rfl<|e_p (zR yi rfl)<|e_p (zza (z:=((((k+1)%n):Nat):Int)) rfl rfl om (remN om om))<|r_vl rfl rfl (zIa (x0:=(ye l ((k+1)%n))) 2 ((k+1)%n) rfl yi sz69 rfl cbs rfl rfl (gD (d:=((0:Rat),(0:Rat))) om)) ?_
  rintro ⟨b7,o8,w9,w10,w11,w12⟩ -
  dsimp only [aq,nq,cq]
  refine zKd open_rR<|e_ru (zt (j:=0) 0 ty69 rfl rfl rfl (.t8 .nil))<|zP rfl rfl (zn zr69 rfl) (fun b13=> ?_)
  refine zm 0 rfl rfl rfl rfl rfl sz69 rfl (.t8 .nil) .z<|zi<|ze<|zwa (.c (i:=1) rfl (.c (i:=0) rfl (.c (i:=0) rfl .n)))<|zY (OW:=[boxA b4 43 (cw [wk1,wk2])]) (O:=[boxA b13 69 (cw [w9,w10,w11,w12]),boxA b1 43 (cw [wz,wz])]) 19 mixed (.block (.then (.then (.block (.then .ret))))) kr<|e_uw 0 rfl rfl (zb 0 ty43 rfl rfl (.t4 .nil))<|e_dm 1 rfl rfl rfl<|e_dm 2 rfl rfl rfl<|d_vl 3 rfl rfl kr kr rfl rfl (zIa (x0:=(ye l k)) 5 k rfl yi sz69 rfl cbs rfl rfl (gD (d:=((0:Rat),(0:Rat))) om)) ?_
  rintro ⟨b14,o15,w16,w17,w18,w19⟩ -
  dsimp only [aq,nq,cq]
  refine zRb open_rR<|e_pv 4 rfl rfl (zf yg rfl sz43 rfl rfl)<|e_u 5 rfl rfl (zt (j:=0) 0 ty43 rfl rfl rfl (.t4 .nil))<|e_pv 6 rfl rfl (zf yg rfl sz43 rfl rfl)<|e_uw 7 rfl rfl (zb 1 ty43 rfl rfl (.s4 (.t4 .nil)))<|e_pv 9 rfl rfl (zf yg rfl sz43 rfl rfl)<|e_uw 10 rfl rfl (zb 1 ty43 rfl rfl (.t4 .nil))<|e_dm 11 rfl rfl rfl<|e_dm 12 rfl rfl rfl<|d_vl 13 rfl rfl kr kr rfl rfl (zIa (x0:=(ye l k)) 8 k rfl yi sz69 rfl cbs rfl rfl (gD (d:=((0:Rat),(0:Rat))) om)) ?_
  rintro ⟨b20,o21,w22,w23,w24,w25⟩ -
  dsimp only [aq,nq,cq]
  refine zRb open_rR<|e_pv 14 rfl rfl (zf yg rfl sz43 rfl rfl)<|e_u 15 rfl rfl (zt (j:=4) 0 ty43 rfl rfl rfl (.s4 (.t4 .nil)))<|e_one 8 (zq rfl rfl rfl rfl (.c rfl (.c rfl .n)) ce25 (zSa (k1:=true) (u1:=w16) (v1:=w17) (q1:=(ye l k).1) (k2:=true) (u2:=w11) (v2:=w12) (q2:=(ye l ((k+1)%n)).2) (hl:=by first|rfl|assumption|omega|decide)) (.c (j:=4) rfl (.c (j:=8) rfl .n)) ?_)
  rintro ⟨w326,w427⟩ -
  dsimp only [aq,nq,cq]
  refine e_one 16 (zq rfl rfl rfl rfl (.c rfl (.c rfl .n)) ce25 (zSa (k1:=true) (u1:=w9) (v1:=w10) (q1:=(ye l ((k+1)%n)).1) (k2:=true) (u2:=w24) (v2:=w25) (q2:=(ye l k).2) (hl:=by first|rfl|assumption|omega|decide)) (.c (j:=8) rfl (.c (j:=3) rfl .n)) ?_)
  rintro ⟨w328,w429⟩ -
  dsimp only [aq,nq,cq]
  refine e_one 17 (zq rfl rfl rfl rfl (.c rfl (.c rfl .n)) ce71 (zCa (k1:=true) (u1:=w326) (v1:=w427) (q1:=((ye l k).1)*((ye l ((k+1)%n)).2)) (k2:=true) (u2:=w328) (v2:=w429) (q2:=((ye l ((k+1)%n)).1)*((ye l k).2)) (hl:=by first|rfl|assumption|omega|decide)) (.c (j:=1) rfl (.c (j:=0) rfl .n)) ?_)
  rintro ⟨w330,w431⟩ -
  dsimp only [aq,nq,cq]
  refine e_one 18 (zq rfl rfl rfl rfl (.c rfl (.c rfl .n)) ce70 (zEb (k1:=true) (u1:=wk1) (v1:=wk2) (q1:=(Pg.szN n l k)) (k2:=true) (u2:=w330) (v2:=w431) (q2:=(((ye l k).1)*((ye l ((k+1)%n)).2)) - (((ye l ((k+1)%n)).1)*((ye l k).2))) (hl:=by first|rfl|assumption|omega|decide)) (.c (j:=12) rfl (.c (j:=0) rfl .n)) ?_)
  rintro ⟨w332,w433⟩ -
  dsimp only [aq,nq,cq]
  refine e_one 19 (zr kr rfl rfl rfl rfl rfl sz43 rfl (.t4 .nil) ?_)
  refine zW kr<|zT<|ze<|za<|e_mv rfl<|e_p (zO (z:=(((k+1):Nat):Int)) rfl rfl (w64 om))<|e_p (zd rfl)<|zi<|zla ((k+1),w332,w433) (show (k+1)≤n from by show k+1≤n;omega) (by show n - (k+1)<n - k;omega) (mR rfl) (ho:=((.of [0,1] rfl):PickO _ _ _)) ((.e (j:=0) rfl (by first|rfl|simp_all) (.of [14,15] rfl)):SelR _ _ _)
 ·
  refine zqa<|zk<|zk<|zD<|ze<|zh<|za<|e_ru (zb 0 ty43 rfl rfl (.t4 .nil))<|zm 1 rfl rfl rfl rfl rfl sz43 rfl (.t4 .nil) (.s .z)<|zi<|ze<|zL ?_
  exact zx Tryz.results24 (wk1,wk2) trivial (zv 1 ty43 rfl rfl (.t4 .nil)) rfl (ho:=oN) ((.e (j:=0) rfl (by rw [show k=n by omega,Pg.sz,hn]) .n):SelR _ _ _)
theorem zaf {p1:Option Addr} {n1:Nat} {c1:Nat} {l1:List (Int×Int×Int)} {p2:Option Addr} {n2:Nat} {c2:Nat} {l2:List (Int×Int×Int)} (hn1:l1.length=n1) (hn2:l2.length=n2):Con yk 32 [.slice p1 n1 c1,.slice p2 n2 c2] [] [slF (rI3 .i64) p1 c1 l1,slF (rI3 .i64) p2 c2 l2] (Y:=Unit) (fun y=>True) (fun y=> .bool (decide (l1=l2))) (fun y=>[]) (fun y=>[]):=by
 refine zo Tryz.func32 rfl rfl rfl (fun c=> ?_)
 show RunC _ _ _ _ _ [(0,.slice p1 n1 c1),(1,.slice p2 n2 c2)] [] [slF (rI3 .i64) p1 c1 l1,slF (rI3 .i64) p2 c2 l2]
 refine zea 0 rfl (fun hL0=> ?_)
 refine zea 1 rfl (fun hL1=> ?_)
 refine zh<|za<|e_p (zd rfl)<|zi<|ze<|zh<|zh<|za<|e_mv rfl<|e_p (zR yE rfl)<|e_mv rfl<|e_p (zR yE rfl)<|e_p (zXa rfl rfl)<|zi<|ze<|zJ rfl (fun hlen=> ?_) (fun hlen=> ?_)
 ·
  refine zh<|za<|e_p (zd rfl)<|zi<|ze<|zL<|zj ?_
  exact zx Tryz.results32 () trivial (zl rfl) (congrArg Value.bool (decide_eq_false (fun h=>hlen (by rw [← hn1,←hn2,h])))) (ho:=oN) sN
 ·
  refine zC<|ze<|zh<|zh<|za<|e_mv rfl<|e_p (zR yE rfl)<|e_mv rfl<|zi<|ze<|zE<|zra (X:=Nat) (fun x:Nat=>x≤n1∧∀j,j<x→l1.getD j (0,0,0)=l2.getD j (0,0,0)) (fun x=>[(13,ya yb ((x:Nat):Int)),(12,ya yb ((n1:Nat):Int)),(0,.slice p1 n1 c1),(1,.slice p2 n2 c2)]) (fun x=>[]) (fun x=>[slF (rI3 .i64) p1 c1 l1,slF (rI3 .i64) p2 c2 l2]) (fun x:Nat=>n1 - x) 0 (show 0≤n1∧∀j,j<0→l1.getD j (0,0,0)=l2.getD j (0,0,0) from by exact ⟨by omega,fun j h=>by omega⟩) ((.e rfl cgs (.of rfl)):SubM _ _) (ho:=oN) ((.of [0,1] rfl):SelR _ _ _) ?_
  rintro i hI
  replace hI:i≤n1∧∀j,j<i→l1.getD j (0,0,0)=l2.getD j (0,0,0):=hI
  try dsimp only
  obtain ⟨hi,hall⟩:=hI
  refine zh<|za<|e_p (zda rfl rfl)<|zi<|ze<|zh<|zJ rfl (fun h1=> ?_) (fun h1=> ?_)
  ·
   refine zC<|ze<|zh<|zE<|zh<|za<|e_mv rfl<|e_p (zd rfl)<|zi<|ze<|zh<|zY (OW:=[]) (O:=[]) 100000 mixed (.then (.block (.then (.then (.block (.then .ret)))))) kr<|e_dm 0 rfl rfl rfl<|e_dm 1 rfl rfl rfl<|zga (x0:=(l1.getD i (0,0,0))) 2 rfl rfl kr kr 0 i rfl yE sz50 rfl rfl rfl cbs rfl rfl (gD (d:=(0,0,0)) om) (fun b2 o3 hok4=> ?_)
   obtain ⟨hok4x,hok4y,hok4z⟩:=hok4
   replace hok4x:=zM.1 hok4x
   replace hok4y:=zM.1 hok4y
   replace hok4z:=zM.1 hok4z
   refine e_u 3 rfl rfl (zt (j:=0) 0 ty50 rfl rfl rfl (.t2 (.take .nil)))<|e_dm 4 rfl rfl rfl<|e_dm 5 rfl rfl rfl<|zga (x0:=(l2.getD i (0,0,0))) 6 rfl rfl kr kr 2 i rfl yE sz50 rfl rfl rfl cbs rfl rfl (gD (d:=(0,0,0)) om) (fun b5 o6 hok7=> ?_)
   obtain ⟨hok7x,hok7y,hok7z⟩:=hok7
   replace hok7x:=zM.1 hok7x
   replace hok7y:=zM.1 hok7y
   replace hok7z:=zM.1 hok7z
   refine e_u 7 rfl rfl (zt (j:=0) 0 ty50 rfl rfl rfl (.t2 (.take .nil)))<|e_pv 8 rfl rfl (zTe (p:=(l1.getD i (0,0,0)).1=(l2.getD i (0,0,0)).1∧(l1.getD i (0,0,0)).2.1=(l2.getD i (0,0,0)).2.1∧(l1.getD i (0,0,0)).2.2=(l2.getD i (0,0,0)).2.2) kr rfl rfl (zmf Tryz.underlying50 sz3 (zge ty3 rfl rfl (zSc yG) (zge ty3 rfl rfl (zSc yG) (zge ty3 rfl rfl (zSc yG) zpg)))) (by simp [Bool.decide_and]))<|zW kr<|ze<|zJ rfl (fun hd=> ?_) (fun hd=> ?_)
   ·
    refine zh<|za<|e_p (zd rfl)<|zi<|ze<|zL<|zy<|zj<|zj<|zy<|zj ?_
    exact zx Tryz.results32 () trivial (zl rfl) (congrArg Value.bool (decide_eq_false (fun h=>hd (by simp [h])))) (ho:=oN) sN
   ·
    refine zC<|zT<|ze<|za<|e_p (zO (z:=(((i+1):Nat):Int)) rfl rfl (w64 om))<|e_mv rfl<|zi<|zla (i+1) (show (i+1)≤n1∧∀j,j<(i+1)→l1.getD j (0,0,0)=l2.getD j (0,0,0) from by exact ⟨by omega,yw hall (by have h9:=Decidable.not_not.1 hd;first|exact h9|(apply Prod.ext;exact h9.1;apply Prod.ext;exact h9.2.1;exact h9.2.2))⟩) (by show n1 - (i+1)<n1 - i;omega) (mR rfl) (ho:=oN) ((.of [2,3] rfl):SelR _ _ _)
  ·
   refine zqa<|zk<|zk<|zD<|ze<|zh<|za<|e_p (zd rfl)<|zi<|ze<|zL ?_
   exact zx Tryz.results32 () trivial (zl rfl) (congrArg Value.bool (decide_eq_true (Ms.ext_getD (0,0,0) om (fun j hj=>hall j om)))) (ho:=oN) sN
end Go.Proofs.YtjcpbhlijoigfaaGreat.Sp
namespace Go.Proofs.YtjcpbhlijoigfaaGreat.Pg
open Big
set_option linter.unusedVariables false
theorem di1 (z:Int):Rat.divInt z 1=(z:Rat):=by
  rw [Rat.divInt_eq_div]
  have:((1:Int):Rat)=1:=rfl
  rw [this];grind
theorem tr3_n {l:List P2} {n:Nat} (hn:l.length=n) (i:Nat):tr3 l i=crs (gt l i) (gt l ((i+1)%n)) (gt l ((i+2)%n)):=by subst hn;rfl
end Go.Proofs.YtjcpbhlijoigfaaGreat.Pg
namespace Go.Proofs.YtjcpbhlijoigfaaGreat.Sp
open Go
set_option linter.unusedVariables false
set_option maxRecDepth 100000
set_option maxHeartbeats 8000000
theorem zAc {ex:Int} {ey:Int} (hwex: -9223372036854775808≤ex∧ex≤9223372036854775807) (hwey: -9223372036854775808≤ey∧ey≤9223372036854775807):Con yk 62 [.agg #[ya yb ex,ya yb ey]] [] [] (Y:=Wd×Wd×Wd×Wd) (fun y=>True) (fun y=> .agg #[y.1.b,y.1.l,y.2.1.b,y.2.1.l,y.2.2.1.b,y.2.2.1.l,y.2.2.2.b,y.2.2.2.l]) (fun y=>[]) (fun y=>[qF true y.1 y.2.1 ((yr ex ey).1),qF true y.2.2.1 y.2.2.2 ((yr ex ey).2)]):=by
 refine zo Tryz.func62 rfl rfl rfl (fun c=> ?_)
 show RunC _ _ _ _ _ [(0,.agg #[ya yb ex,ya yb ey])] [] []
 refine zh<|za<|zP rfl rfl (zS rfl rfl) (fun b1=> ?_)
 refine zP rfl rfl (zn zr69 rfl) (fun b2=> ?_)
 refine zi<|ze<|zh<|zY (OW:=[boxA b2 69 (cw [wz,wz,wz,wz])]) (O:=[boxA b1 30 [ya yb ex,ya yb ey]]) 7 mixed (.then .ret) kr<|e_pv 0 rfl rfl (zf yl rfl sz3 rfl rfl)<|e_uw 1 rfl rfl (zg 1 ty3 rfl rfl rfl)<|e_pv 3 rfl rfl (zf yl rfl sz3 rfl rfl)<|e_uw 4 rfl rfl (zg 1 ty3 rfl rfl rfl)<|e_one 2 (zq rfl rfl rfl rfl (.c rfl (.c rfl .n)) ce69 (zqe (z1:=ex) (z2:=1) (hz1:=ass) (hz2:=by first|rfl|assumption|omega|decide) (hy:=by first|rfl|assumption|omega|decide)) (.n) ?_)
 rintro ⟨w33,w44⟩ -
 dsimp only [aq,nq,cq]
 refine e_one 5 (zq rfl rfl rfl rfl (.c rfl (.c rfl .n)) ce69 (zqe (z1:=ey) (z2:=1) (hz1:=ass) (hz2:=by first|rfl|assumption|omega|decide) (hy:=by first|rfl|assumption|omega|decide)) (.n) ?_)
 rintro ⟨w35,w46⟩ -
 dsimp only [aq,nq,cq]
 refine e_pv 6 rfl rfl (zK zr69 rfl yg (.c sz43 (.c sz43 .n)) (.c rfl (.c rfl .n)) (.c rfl rfl rfl (.t4 .nil) (.c rfl rfl rfl (.s4 (.t4 .nil)) .n)))<|e_one 7 (zr kr rfl rfl rfl rfl rfl sz69 rfl (.t8 .nil) ?_)
 refine zW kr<|ze<|zL ?_
 exact zx Tryz.results62 (w33,w44,w35,w46) trivial (zv 0 ty69 rfl rfl (.t8 .nil)) rfl (ho:=oN) ((.e (j:=1) rfl (by first|rfl|(rw [Pg.di1];rfl)) (.e (j:=0) rfl (by first|rfl|(rw [Pg.di1];rfl)) .n)):SelR _ _ _)
theorem zre {p:Option Addr} {n:Nat} {cap:Nat} {l:List Pg.P2} (hn:l.length=n) (hb:n≤1000):Con yk 64 [.slice p n cap] [] [slF (rI2 .i64) p cap l] (Y:=(Option Addr)×Nat) (fun y=>True) (fun y=> .slice (y.1) ((yx l).length) (y.2)) (fun y=>[rowA 69 rR (y.1) (y.2) (yx l)]) (fun y=>[]):=by
 refine zo Tryz.func64 rfl rfl rfl (fun c=> ?_)
 show RunC _ _ _ _ _ [(0,.slice p n cap)] [] [slF (rI2 .i64) p cap l]
 refine zea 0 rfl (fun hL0=> ?_)
 refine zh<|za<|e_p (zd rfl)<|zi<|ze<|zh<|za<|zKa rfl rfl (zva rR yi inf69) (fun b1 _=> ?_)
 refine e_p (zd rfl)<|zi<|ze<|zh<|zh<|za<|e_p (zd rfl)<|zi<|ze<|zE<|zra (X:=Nat×(Option Addr)×Nat) (fun x:Nat×(Option Addr)×Nat=>x.1≤n) (fun x=>[(3,.slice (x.2.1) (x.1) (x.2.2)),(4,ya yb ((x.1:Nat):Int)),(2,.slice none 0 0),(0,.slice p n cap)]) (fun x=>[rowA 69 rR (x.2.1) (x.2.2) (yx (l.take x.1))]) (fun x=>[slF (rI2 .i64) p cap l]) (fun x:Nat×(Option Addr)×Nat=>n - x.1) (0,some ⟨b1,0,none⟩,0) (show 0≤n from by exact Nat.zero_le _) ((.c rfl (.e rfl cgs (.c rfl (.c rfl .n)))):SubM _ _) (ho:=((.e (i:=0) rfl cgs .n):PickO _ _ _)) (s0 rfl) ?_
 rintro ⟨i,p7,c7⟩ hI
 replace hI:i≤n:=hI
 try dsimp only
 refine zh<|zh<|za<|e_mv rfl<|e_mv rfl<|e_p (zR yh rfl)<|e_p (zda rfl rfl)<|zi<|ze<|zJ rfl (fun h2=> ?_) (fun h2=> ?_)
 ·
  have hpl:(yx (l.take i)).length=i:=by unfold yx;rw [List.length_map,List.length_take];omega
  refine zC<|ze<|zh<|zE<|za<|e_mv rfl<|e_mv rfl<|e_mv rfl<|zX (x0:=(l.getD i (0,0))) 0 i rfl yh sz30 rfl rfl rfl cbs rfl rfl (gD (d:=(0,0)) om) (fun b3 o4 hok5=> ?_)
  obtain ⟨hok5x,hok5y⟩:=hok5
  replace hok5x:=zM.1 hok5x
  replace hok5y:=zM.1 hok5y
  refine e_ru (zt (j:=0) 0 ty30 rfl rfl rfl (.t2 .nil))<|zG rfl rfl (.c rfl .n) ce62 (zAc (ex:=(l.getD i (0,0)).1) (ey:=(l.getD i (0,0)).2) (hwex:=cbo) (hwey:=cbo)) (.n) ?_
  rintro ⟨wr06,wr17,wr28,wr39⟩ -
  dsimp only [aq,nq,cq]
  refine zKa rfl rfl (zPa (r:=rR) (k:=1) yi inf69 rfl dd dd dd (.c (x:=(((yr ((l.getD i (0,0)).1) ((l.getD i (0,0)).2)).1),((yr ((l.getD i (0,0)).1) ((l.getD i (0,0)).2)).2))) (cs:=[wr06.b,wr06.l,wr17.b,wr17.l,wr28.b,wr28.l,wr39.b,wr39.l]) (wr06,wr17,wr28,wr39) rfl rfl rfl (fun g hr=>⟨Holds.get 0 rfl hr,Holds.get 1 rfl hr⟩) .n)) (fun b10 _=> ?_)
  refine zka 0 rfl .z<|zQa 1 rfl rfl rfl (zua 0 rfl yi inf69 dd rfl rfl cbs rfl cbs om om) (fun _=>(.s .z)) ?_
  rintro ⟨p11,c12⟩ -
  dsimp only [aq,nq,cq]
  refine e_p (zd rfl)<|zi<|zT<|ze ?_
  have hrw:((yx (l.take i))++([(((yr ((l.getD i (0,0)).1) ((l.getD i (0,0)).2)).1),((yr ((l.getD i (0,0)).1) ((l.getD i (0,0)).2)).2))]))=yx (l.take (i+1)):=by rw [Pg.pts_take om]
  rw [hrw]
  refine za<|e_mv rfl<|e_p (zO (z:=(((i+1):Nat):Int)) rfl rfl (w64 om))<|e_p (zd rfl)<|zi<|zla ((i+1),p11,c12) (show (i+1)≤n from by show i+1≤n;omega) (by show n - (i+1)<n - i;omega) ((.e rfl cgs (.of rfl)):SubM _ _) (ho:=((.c (i:=1) rfl .n):PickO _ _ _)) ((.c (j:=4) rfl .n):SelR _ _ _)
 ·
  refine zqa<|zk<|zk<|zD<|ze<|zh<|za<|e_mv rfl<|e_p (zd rfl)<|zi<|ze<|zL ?_
  have hin9:i=n:=by omega
  have e13:yx (l.take i)=yx l:=by rw [hin9,List.take_of_length_le om]
  rw [e13]
  exact zx Tryz.results64 (p7,c7) trivial (zl rfl) (by rw [show (yx l).length=i by unfold yx;rw [List.length_map];omega]) (ho:=(o0 rfl)) sN
theorem zBc {wa0:Wd} {wa1:Wd} {wa2:Wd} {wa3:Wd} {qa:Pg.Q2} {wb0:Wd} {wb1:Wd} {wb2:Wd} {wb3:Wd} {qb:Pg.Q2} {wd0:Wd} {wd1:Wd} {wd2:Wd} {wd3:Wd} {qd:Pg.Q2} {K:Nat} (hpa:Pg.hp 3 qa) (hpb:Pg.hp 3 qb) (hpd:Pg.hp K qd) (hK:2*K+23≤1000000):Con yk 103 [.agg #[wa0.b,wa0.l,wa1.b,wa1.l,wa2.b,wa2.l,wa3.b,wa3.l],.agg #[wb0.b,wb0.l,wb1.b,wb1.l,wb2.b,wb2.l,wb3.b,wb3.l],.agg #[wd0.b,wd0.l,wd1.b,wd1.l,wd2.b,wd2.l,wd3.b,wd3.l]] [] [qF true wa0 wa1 (qa.1),qF true wa2 wa3 (qa.2),qF true wb0 wb1 (qb.1),qF true wb2 wb3 (qb.2),qF true wd0 wd1 (qd.1),qF true wd2 wd3 (qd.2)] (Y:=Wd×Wd) (fun y=>True) (fun y=> .agg #[y.1.b,y.1.l,y.2.b,y.2.l]) (fun y=>[]) (fun y=>[qF true y.1 y.2 (Pg.sdq qa qb qd)]):=by
 refine zo Tryz.func103 rfl rfl rfl (fun c=> ?_)
 show RunC _ _ _ _ _ [(0,.agg #[wa0.b,wa0.l,wa1.b,wa1.l,wa2.b,wa2.l,wa3.b,wa3.l]),(1,.agg #[wb0.b,wb0.l,wb1.b,wb1.l,wb2.b,wb2.l,wb3.b,wb3.l]),(2,.agg #[wd0.b,wd0.l,wd1.b,wd1.l,wd2.b,wd2.l,wd3.b,wd3.l])] [] [qF true wa0 wa1 (qa.1),qF true wa2 wa3 (qa.2),qF true wb0 wb1 (qb.1),qF true wb2 wb3 (qb.2),qF true wd0 wd1 (qd.1),qF true wd2 wd3 (qd.2)]
 obtain ⟨ha1,ha2⟩:=id hpa
 obtain ⟨hb1,hb2⟩:=id hpb
 obtain ⟨hd1,hd2⟩:=id hpd
 have he1:yz (qb.1 - qa.1)≤7:=(Pg.hp_awq hpa hpb).1
 have he2:yz (qb.2 - qa.2)≤7:=(Pg.hp_awq hpa hpb).2
 have he3:yz (qd.1 - qa.1)≤3+K+1:=(Pg.hp_awq hpa hpd).1
 have he4:yz (qd.2 - qa.2)≤3+K+1:=(Pg.hp_awq hpa hpd).2
 have hm5:=Big.hq_mul (qb.1 - qa.1) (qd.2 - qa.2)
 have hm6:=Big.hq_mul (qb.2 - qa.2) (qd.1 - qa.1)
 refine zh<|za<|zP rfl rfl (zS rfl rfl) (fun b1=> ?_)
 refine zP rfl rfl (zS rfl rfl) (fun b2=> ?_)
 refine zP rfl rfl (zS rfl rfl) (fun b3=> ?_)
 refine zP rfl rfl (zn zr43 rfl) (fun b4=> ?_)
 refine zi<|ze<|zh<|zY (OW:=[]) (O:=[boxA b4 43 (cw [wz,wz]),boxA b3 69 (cw [wd0,wd1,wd2,wd3]),boxA b2 69 (cw [wb0,wb1,wb2,wb3]),boxA b1 69 (cw [wa0,wa1,wa2,wa3])]) 12 mixed (.then .ret) kr<|e_pv 0 rfl rfl (zf yg rfl sz43 rfl rfl)<|e_u 1 rfl rfl (zb 2 ty43 rfl rfl (.t4 .nil))<|e_pv 2 rfl rfl (zf yg rfl sz43 rfl rfl)<|e_u 3 rfl rfl (zb 3 ty43 rfl rfl (.t4 .nil))<|e_pv 5 rfl rfl (zf yg rfl sz43 rfl rfl)<|e_u 6 rfl rfl (zb 1 ty43 rfl rfl (.s4 (.t4 .nil)))<|e_pv 7 rfl rfl (zf yg rfl sz43 rfl rfl)<|e_u 8 rfl rfl (zb 3 ty43 rfl rfl (.s4 (.t4 .nil)))<|zNb (m':=[(17,.agg (cw [wa2,wa3]).toArray),(15,.agg (cw [wd2,wd3]).toArray),(12,.agg (cw [wa0,wa1]).toArray),(10,.agg (cw [wb0,wb1]).toArray),(6,yc (some ⟨b4,0,none⟩)),(5,yc (some ⟨b3,0,none⟩)),(4,yc (some ⟨b2,0,none⟩)),(3,yc (some ⟨b1,0,none⟩))]) (R':=[qF true wa0 wa1 (qa.1),qF true wa2 wa3 (qa.2),qF true wb0 wb1 (qb.1),qF true wb2 wb3 (qb.2),qF true wd0 wd1 (qd.1),qF true wd2 wd3 (qd.2)]) (mR rfl) (List.Perm.refl _) (List.Perm.refl _) ((.of [0,1,2,3,4,5] rfl):SelR _ _ _)<|zca (X:=Wd×Wd×Wd×Wd×Wd×Wd×Nat) (k':=0) (L':=(lb 13 8191)) (fun (u4_1,u4_2,u9_1,u9_2,u10_1,u10_2,u11_1)=>([(7,yc (some ⟨u11_1,0,none⟩)),(6,yc (some ⟨b4,0,none⟩)),(5,yc (some ⟨b3,0,none⟩)),(4,yc (some ⟨b2,0,none⟩)),(3,yc (some ⟨b1,0,none⟩))],[boxA u11_1 43 (cw [u10_1,u10_2])],[boxA b4 43 (cw [wz,wz]),boxA b3 69 (cw [wd0,wd1,wd2,wd3]),boxA b2 69 (cw [wb0,wb1,wb2,wb3]),boxA b1 69 (cw [wa0,wa1,wa2,wa3])],[qF true u10_1 u10_2 ((qb.1 - qa.1)*(qd.2 - qa.2)),qF true u9_1 u9_2 (qd.2 - qa.2),qF true u4_1 u4_2 (qb.1 - qa.1),qF true wa0 wa1 (qa.1),qF true wa2 wa3 (qa.2),qF true wb0 wb1 (qb.1),qF true wb2 wb3 (qb.2),qF true wd0 wd1 (qd.1),qF true wd2 wd3 (qd.2)])) ?_ (fun hD0=> ?_)
 ·
  rintro ⟨u4_1,u4_2,u9_1,u9_2,u10_1,u10_2,u11_1⟩
  dsimp only [cw]
  refine zW kr<|ze<|zh<|zY (OW:=[]) (O:=[boxA u11_1 43 (cw [u10_1,u10_2]),boxA b4 43 (cw [wz,wz]),boxA b3 69 (cw [wd0,wd1,wd2,wd3]),boxA b2 69 (cw [wb0,wb1,wb2,wb3]),boxA b1 69 (cw [wa0,wa1,wa2,wa3])]) 12 mixed (.then .ret) kr<|e_pv 0 rfl rfl (zf yg rfl sz43 rfl rfl)<|e_u 1 rfl rfl (zb 3 ty43 rfl rfl (.s4 (.t4 .nil)))<|e_pv 2 rfl rfl (zf yg rfl sz43 rfl rfl)<|e_u 3 rfl rfl (zb 4 ty43 rfl rfl (.s4 (.t4 .nil)))<|e_pv 5 rfl rfl (zf yg rfl sz43 rfl rfl)<|e_u 6 rfl rfl (zb 2 ty43 rfl rfl (.t4 .nil))<|e_pv 7 rfl rfl (zf yg rfl sz43 rfl rfl)<|e_u 8 rfl rfl (zb 4 ty43 rfl rfl (.t4 .nil))<|zNb (m':=[(28,.agg (cw [wa0,wa1]).toArray),(26,.agg (cw [wd0,wd1]).toArray),(23,.agg (cw [wa2,wa3]).toArray),(21,.agg (cw [wb2,wb3]).toArray),(7,yc (some ⟨u11_1,0,none⟩)),(6,yc (some ⟨b4,0,none⟩))]) (R':=[qF true u10_1 u10_2 ((qb.1 - qa.1)*(qd.2 - qa.2)),qF true u9_1 u9_2 (qd.2 - qa.2),qF true u4_1 u4_2 (qb.1 - qa.1),qF true wa0 wa1 (qa.1),qF true wa2 wa3 (qa.2),qF true wb0 wb1 (qb.1),qF true wb2 wb3 (qb.2),qF true wd0 wd1 (qd.1),qF true wd2 wd3 (qd.2)]) (mR rfl) (List.Perm.refl _) (List.Perm.refl _) ((.of [0,1,2,3,4,5,6,7,8] rfl):SelR _ _ _)<|zca (X:=Wd×Wd×Wd×Wd×Wd×Wd×Nat) (k':=0) (L':=(lb 13 8191)) (fun (u4_1r2,u4_2r2,u9_1r2,u9_2r2,u10_1r2,u10_2r2,u11_1r2)=>([(8,yc (some ⟨u11_1r2,0,none⟩)),(7,yc (some ⟨u11_1,0,none⟩)),(6,yc (some ⟨b4,0,none⟩))],[boxA u11_1r2 43 (cw [u10_1r2,u10_2r2])],[boxA u11_1 43 (cw [u10_1,u10_2]),boxA b4 43 (cw [wz,wz]),boxA b3 69 (cw [wd0,wd1,wd2,wd3]),boxA b2 69 (cw [wb0,wb1,wb2,wb3]),boxA b1 69 (cw [wa0,wa1,wa2,wa3])],[qF true u10_1r2 u10_2r2 ((qb.2 - qa.2)*(qd.1 - qa.1)),qF true u9_1r2 u9_2r2 (qd.1 - qa.1),qF true u4_1r2 u4_2r2 (qb.2 - qa.2),qF true u10_1 u10_2 ((qb.1 - qa.1)*(qd.2 - qa.2)),qF true u9_1 u9_2 (qd.2 - qa.2),qF true u4_1 u4_2 (qb.1 - qa.1),qF true wa0 wa1 (qa.1),qF true wa2 wa3 (qa.2),qF true wb0 wb1 (qb.1),qF true wb2 wb3 (qb.2),qF true wd0 wd1 (qd.1),qF true wd2 wd3 (qd.2)])) ?_ (fun hD0=> ?_)
  ·
   rintro ⟨u4_1r2,u4_2r2,u9_1r2,u9_2r2,u10_1r2,u10_2r2,u11_1r2⟩
   dsimp only [cw]
   refine zW kr<|ze<|zh<|za<|e_ru (zb 1 ty43 rfl rfl (.t4 .nil))<|e_ru (zb 0 ty43 rfl rfl (.t4 .nil))<|zG rfl rfl (.c rfl (.c rfl .n)) ce71 (zCa (k1:=true) (u1:=u10_1) (v1:=u10_2) (q1:=(qb.1 - qa.1)*(qd.2 - qa.2)) (k2:=true) (u2:=u10_1r2) (v2:=u10_2r2) (q2:=(qb.2 - qa.2)*(qd.1 - qa.1)) (hl:=cbo)) (.c (j:=3) rfl (.c (j:=0) rfl .n)) ?_
   rintro ⟨w35,w46⟩ -
   dsimp only [aq,nq,cq]
   refine zm 2 rfl rfl rfl rfl rfl sz43 rfl (.t4 .nil) (.s (.s .z))<|zi<|ze<|zL ?_
   exact zx Tryz.results103 (w35,w46) trivial (zv 2 ty43 rfl rfl (.t4 .nil)) rfl (ho:=oN) ((.e (j:=0) rfl (by first|rfl|(unfold Pg.sdq Pg.prq Pg.awq;rw [Rat.mul_comm (qb.2 - qa.2)])) .n):SelR _ _ _)
  refine zca (X:=Wd×Wd×Wd×Wd×Wd×Wd×Nat) (k':=1) (L':=(lb 13 4095)) (fun (u4_1r2,u4_2r2,u9_1r2,u9_2r2,u10_1r2,u10_2r2,u11_1r2)=>([(8,yc (some ⟨u11_1r2,0,none⟩)),(30,.agg (cw [u10_1r2,u10_2r2]).toArray),(7,yc (some ⟨u11_1,0,none⟩)),(6,yc (some ⟨b4,0,none⟩))],[boxA u11_1r2 43 (cw [wz,wz])],[boxA u11_1 43 (cw [u10_1,u10_2]),boxA b4 43 (cw [wz,wz]),boxA b3 69 (cw [wd0,wd1,wd2,wd3]),boxA b2 69 (cw [wb0,wb1,wb2,wb3]),boxA b1 69 (cw [wa0,wa1,wa2,wa3])],[qF true u10_1r2 u10_2r2 ((qb.2 - qa.2)*(qd.1 - qa.1)),qF true u9_1r2 u9_2r2 (qd.1 - qa.1),qF true u4_1r2 u4_2r2 (qb.2 - qa.2),qF true u10_1 u10_2 ((qb.1 - qa.1)*(qd.2 - qa.2)),qF true u9_1 u9_2 (qd.2 - qa.2),qF true u4_1 u4_2 (qb.1 - qa.1),qF true wa0 wa1 (qa.1),qF true wa2 wa3 (qa.2),qF true wb0 wb1 (qb.1),qF true wb2 wb3 (qb.2),qF true wd0 wd1 (qd.1),qF true wd2 wd3 (qd.2)])) ?_ (fun hD1=> ?_)
  ·
   rintro ⟨u4_1r2,u4_2r2,u9_1r2,u9_2r2,u10_1r2,u10_2r2,u11_1r2⟩
   dsimp only [cw]
   refine zya 12 kr ?_
   ·
    refine zr kr rfl rfl rfl rfl rfl sz43 rfl (.t4 .nil) ?_
    exact zH (hD0 (u4_1r2,u4_2r2,u9_1r2,u9_2r2,u10_1r2,u10_2r2,u11_1r2)) kr (mR rfl) .rfl .rfl ((.of [0,1,2,3,4,5,6,7,8,9,10,11] rfl):SelR _ _ _)
  refine zca (X:=Wd×Wd×Wd×Wd×Wd×Wd) (k':=2) (L':=(lb 13 2047)) (fun (u4_1r2,u4_2r2,u9_1r2,u9_2r2,u10_1r2,u10_2r2)=>([(30,.agg (cw [u10_1r2,u10_2r2]).toArray),(7,yc (some ⟨u11_1,0,none⟩)),(6,yc (some ⟨b4,0,none⟩))],[],[boxA u11_1 43 (cw [u10_1,u10_2]),boxA b4 43 (cw [wz,wz]),boxA b3 69 (cw [wd0,wd1,wd2,wd3]),boxA b2 69 (cw [wb0,wb1,wb2,wb3]),boxA b1 69 (cw [wa0,wa1,wa2,wa3])],[qF true u10_1r2 u10_2r2 ((qb.2 - qa.2)*(qd.1 - qa.1)),qF true u9_1r2 u9_2r2 (qd.1 - qa.1),qF true u4_1r2 u4_2r2 (qb.2 - qa.2),qF true u10_1 u10_2 ((qb.1 - qa.1)*(qd.2 - qa.2)),qF true u9_1 u9_2 (qd.2 - qa.2),qF true u4_1 u4_2 (qb.1 - qa.1),qF true wa0 wa1 (qa.1),qF true wa2 wa3 (qa.2),qF true wb0 wb1 (qb.1),qF true wb2 wb3 (qb.2),qF true wd0 wd1 (qd.1),qF true wd2 wd3 (qd.2)])) ?_ (fun hD2=> ?_)
  ·
   rintro ⟨u4_1r2,u4_2r2,u9_1r2,u9_2r2,u10_1r2,u10_2r2⟩
   dsimp only [cw]
   refine zya 11 kr ?_
   ·
    refine zma rfl rfl rfl rfl (zn zr43 rfl) (fun u11_1r2 _=> ?_)
    exact zH (hD1 (u4_1r2,u4_2r2,u9_1r2,u9_2r2,u10_1r2,u10_2r2,u11_1r2)) kr (mR rfl) .rfl .rfl ((.of [0,1,2,3,4,5,6,7,8,9,10,11] rfl):SelR _ _ _)
  refine zca (X:=Wd×Wd×Wd×Wd×Nat) (k':=2) (L':=(lb 13 3071)) (fun (u4_1r2,u4_2r2,u9_1r2,u9_2r2,u11_1r2)=>([(8,yc (some ⟨u11_1r2,0,none⟩)),(29,.agg (cw [u9_1r2,u9_2r2]).toArray),(24,.agg (cw [u4_1r2,u4_2r2]).toArray),(7,yc (some ⟨u11_1,0,none⟩)),(6,yc (some ⟨b4,0,none⟩))],[boxA u11_1r2 43 (cw [wz,wz])],[boxA u11_1 43 (cw [u10_1,u10_2]),boxA b4 43 (cw [wz,wz]),boxA b3 69 (cw [wd0,wd1,wd2,wd3]),boxA b2 69 (cw [wb0,wb1,wb2,wb3]),boxA b1 69 (cw [wa0,wa1,wa2,wa3])],[qF true u9_1r2 u9_2r2 (qd.1 - qa.1),qF true u4_1r2 u4_2r2 (qb.2 - qa.2),qF true u10_1 u10_2 ((qb.1 - qa.1)*(qd.2 - qa.2)),qF true u9_1 u9_2 (qd.2 - qa.2),qF true u4_1 u4_2 (qb.1 - qa.1),qF true wa0 wa1 (qa.1),qF true wa2 wa3 (qa.2),qF true wb0 wb1 (qb.1),qF true wb2 wb3 (qb.2),qF true wd0 wd1 (qd.1),qF true wd2 wd3 (qd.2)])) ?_ (fun hD3=> ?_)
  ·
   rintro ⟨u4_1r2,u4_2r2,u9_1r2,u9_2r2,u11_1r2⟩
   dsimp only [cw]
   refine zya 10 kr ?_
   ·
    refine zq rfl rfl rfl rfl (.c rfl (.c rfl .n)) ce25 (zSa (k1:=true) (u1:=u4_1r2) (v1:=u4_2r2) (q1:=qb.2 - qa.2) (k2:=true) (u2:=u9_1r2) (v2:=u9_2r2) (q2:=qd.1 - qa.1) (hl:=cbo)) (.c (j:=1) rfl (.c (j:=0) rfl .n)) ?_
    rintro ⟨u10_1r2,u10_2r2⟩ -
    dsimp only [aq,nq,cq]
    exact zH (hD1 (u4_1r2,u4_2r2,u9_1r2,u9_2r2,u10_1r2,u10_2r2,u11_1r2)) kr (mR rfl) .rfl .rfl ((.of [0,1,2,3,4,5,6,7,8,9,10,11] rfl):SelR _ _ _)
  refine zca (X:=Wd×Wd×Wd×Wd) (k':=3) (L':=(lb 13 1023)) (fun (u4_1r2,u4_2r2,u9_1r2,u9_2r2)=>([(29,.agg (cw [u9_1r2,u9_2r2]).toArray),(24,.agg (cw [u4_1r2,u4_2r2]).toArray),(7,yc (some ⟨u11_1,0,none⟩)),(6,yc (some ⟨b4,0,none⟩))],[],[boxA u11_1 43 (cw [u10_1,u10_2]),boxA b4 43 (cw [wz,wz]),boxA b3 69 (cw [wd0,wd1,wd2,wd3]),boxA b2 69 (cw [wb0,wb1,wb2,wb3]),boxA b1 69 (cw [wa0,wa1,wa2,wa3])],[qF true u9_1r2 u9_2r2 (qd.1 - qa.1),qF true u4_1r2 u4_2r2 (qb.2 - qa.2),qF true u10_1 u10_2 ((qb.1 - qa.1)*(qd.2 - qa.2)),qF true u9_1 u9_2 (qd.2 - qa.2),qF true u4_1 u4_2 (qb.1 - qa.1),qF true wa0 wa1 (qa.1),qF true wa2 wa3 (qa.2),qF true wb0 wb1 (qb.1),qF true wb2 wb3 (qb.2),qF true wd0 wd1 (qd.1),qF true wd2 wd3 (qd.2)])) ?_ (fun hD4=> ?_)
  ·
   rintro ⟨u4_1r2,u4_2r2,u9_1r2,u9_2r2⟩
   dsimp only [cw]
   refine zdb 10 11 kr ?_ ?_
   ·
    refine zq rfl rfl rfl rfl (.c rfl (.c rfl .n)) ce25 (zSa (k1:=true) (u1:=u4_1r2) (v1:=u4_2r2) (q1:=qb.2 - qa.2) (k2:=true) (u2:=u9_1r2) (v2:=u9_2r2) (q2:=qd.1 - qa.1) (hl:=cbo)) (.c (j:=1) rfl (.c (j:=0) rfl .n)) ?_
    rintro ⟨u10_1r2,u10_2r2⟩ -
    dsimp only [aq,nq,cq]
    exact zH (hD2 (u4_1r2,u4_2r2,u9_1r2,u9_2r2,u10_1r2,u10_2r2)) kr (mR rfl) .rfl .rfl ((.of [0,1,2,3,4,5,6,7,8,9,10,11] rfl):SelR _ _ _)
   ·
    refine zma rfl rfl rfl rfl (zn zr43 rfl) (fun u11_1r2 _=> ?_)
    exact zH (hD3 (u4_1r2,u4_2r2,u9_1r2,u9_2r2,u11_1r2)) kr (mR rfl) .rfl .rfl ((.of [0,1,2,3,4,5,6,7,8,9,10] rfl):SelR _ _ _)
  refine zca (X:=Wd×Wd×Nat) (k':=3) (L':=(lb 13 2559)) (fun (u4_1r2,u4_2r2,u11_1r2)=>([(8,yc (some ⟨u11_1r2,0,none⟩)),(24,.agg (cw [u4_1r2,u4_2r2]).toArray),(28,.agg (cw [wa0,wa1]).toArray),(26,.agg (cw [wd0,wd1]).toArray),(7,yc (some ⟨u11_1,0,none⟩)),(6,yc (some ⟨b4,0,none⟩))],[boxA u11_1r2 43 (cw [wz,wz])],[boxA u11_1 43 (cw [u10_1,u10_2]),boxA b4 43 (cw [wz,wz]),boxA b3 69 (cw [wd0,wd1,wd2,wd3]),boxA b2 69 (cw [wb0,wb1,wb2,wb3]),boxA b1 69 (cw [wa0,wa1,wa2,wa3])],[qF true u4_1r2 u4_2r2 (qb.2 - qa.2),qF true u10_1 u10_2 ((qb.1 - qa.1)*(qd.2 - qa.2)),qF true u9_1 u9_2 (qd.2 - qa.2),qF true u4_1 u4_2 (qb.1 - qa.1),qF true wa0 wa1 (qa.1),qF true wa2 wa3 (qa.2),qF true wb0 wb1 (qb.1),qF true wb2 wb3 (qb.2),qF true wd0 wd1 (qd.1),qF true wd2 wd3 (qd.2)])) ?_ (fun hD5=> ?_)
  ·
   rintro ⟨u4_1r2,u4_2r2,u11_1r2⟩
   dsimp only [cw]
   refine zya 9 kr ?_
   ·
    refine zq rfl rfl rfl rfl (.c rfl (.c rfl .n)) ce71 (zCa (k1:=true) (u1:=wd0) (v1:=wd1) (q1:=qd.1) (k2:=true) (u2:=wa0) (v2:=wa1) (q2:=qa.1) (hl:=cbo)) (.c (j:=8) rfl (.c (j:=4) rfl .n)) ?_
    rintro ⟨u9_1r2,u9_2r2⟩ -
    dsimp only [aq,nq,cq]
    exact zH (hD3 (u4_1r2,u4_2r2,u9_1r2,u9_2r2,u11_1r2)) kr (mR rfl) .rfl .rfl ((.of [0,1,2,3,4,5,6,7,8,9,10] rfl):SelR _ _ _)
  refine zca (X:=Wd×Wd) (k':=4) (L':=(lb 13 511)) (fun (u4_1r2,u4_2r2)=>([(24,.agg (cw [u4_1r2,u4_2r2]).toArray),(28,.agg (cw [wa0,wa1]).toArray),(26,.agg (cw [wd0,wd1]).toArray),(7,yc (some ⟨u11_1,0,none⟩)),(6,yc (some ⟨b4,0,none⟩))],[],[boxA u11_1 43 (cw [u10_1,u10_2]),boxA b4 43 (cw [wz,wz]),boxA b3 69 (cw [wd0,wd1,wd2,wd3]),boxA b2 69 (cw [wb0,wb1,wb2,wb3]),boxA b1 69 (cw [wa0,wa1,wa2,wa3])],[qF true u4_1r2 u4_2r2 (qb.2 - qa.2),qF true u10_1 u10_2 ((qb.1 - qa.1)*(qd.2 - qa.2)),qF true u9_1 u9_2 (qd.2 - qa.2),qF true u4_1 u4_2 (qb.1 - qa.1),qF true wa0 wa1 (qa.1),qF true wa2 wa3 (qa.2),qF true wb0 wb1 (qb.1),qF true wb2 wb3 (qb.2),qF true wd0 wd1 (qd.1),qF true wd2 wd3 (qd.2)])) ?_ (fun hD6=> ?_)
  ·
   rintro ⟨u4_1r2,u4_2r2⟩
   dsimp only [cw]
   refine zdb 9 11 kr ?_ ?_
   ·
    refine zq rfl rfl rfl rfl (.c rfl (.c rfl .n)) ce71 (zCa (k1:=true) (u1:=wd0) (v1:=wd1) (q1:=qd.1) (k2:=true) (u2:=wa0) (v2:=wa1) (q2:=qa.1) (hl:=cbo)) (.c (j:=8) rfl (.c (j:=4) rfl .n)) ?_
    rintro ⟨u9_1r2,u9_2r2⟩ -
    dsimp only [aq,nq,cq]
    exact zH (hD4 (u4_1r2,u4_2r2,u9_1r2,u9_2r2)) kr (mR rfl) .rfl .rfl ((.of [0,1,2,3,4,5,6,7,8,9,10] rfl):SelR _ _ _)
   ·
    refine zma rfl rfl rfl rfl (zn zr43 rfl) (fun u11_1r2 _=> ?_)
    exact zH (hD5 (u4_1r2,u4_2r2,u11_1r2)) kr (mR rfl) .rfl .rfl ((.of [0,1,2,3,4,5,6,7,8,9] rfl):SelR _ _ _)
  refine zca (X:=Nat) (k':=4) (L':=(lb 13 2543)) (fun u11_1r2=>([(8,yc (some ⟨u11_1r2,0,none⟩)),(28,.agg (cw [wa0,wa1]).toArray),(26,.agg (cw [wd0,wd1]).toArray),(23,.agg (cw [wa2,wa3]).toArray),(21,.agg (cw [wb2,wb3]).toArray),(7,yc (some ⟨u11_1,0,none⟩)),(6,yc (some ⟨b4,0,none⟩))],[boxA u11_1r2 43 (cw [wz,wz])],[boxA u11_1 43 (cw [u10_1,u10_2]),boxA b4 43 (cw [wz,wz]),boxA b3 69 (cw [wd0,wd1,wd2,wd3]),boxA b2 69 (cw [wb0,wb1,wb2,wb3]),boxA b1 69 (cw [wa0,wa1,wa2,wa3])],[qF true u10_1 u10_2 ((qb.1 - qa.1)*(qd.2 - qa.2)),qF true u9_1 u9_2 (qd.2 - qa.2),qF true u4_1 u4_2 (qb.1 - qa.1),qF true wa0 wa1 (qa.1),qF true wa2 wa3 (qa.2),qF true wb0 wb1 (qb.1),qF true wb2 wb3 (qb.2),qF true wd0 wd1 (qd.1),qF true wd2 wd3 (qd.2)])) ?_ (fun hD7=> ?_)
  ·
   rintro u11_1r2
   dsimp only [cw]
   refine zya 4 kr ?_
   ·
    refine zq rfl rfl rfl rfl (.c rfl (.c rfl .n)) ce71 (zCa (k1:=true) (u1:=wb2) (v1:=wb3) (q1:=qb.2) (k2:=true) (u2:=wa2) (v2:=wa3) (q2:=qa.2) (hl:=cbo)) (.c (j:=6) rfl (.c (j:=4) rfl .n)) ?_
    rintro ⟨u4_1r2,u4_2r2⟩ -
    dsimp only [aq,nq,cq]
    exact zH (hD5 (u4_1r2,u4_2r2,u11_1r2)) kr (mR rfl) .rfl .rfl ((.of [0,1,2,3,4,5,6,7,8,9] rfl):SelR _ _ _)
  refine zdb 4 11 kr ?_ ?_
  ·
   refine zq rfl rfl rfl rfl (.c rfl (.c rfl .n)) ce71 (zCa (k1:=true) (u1:=wb2) (v1:=wb3) (q1:=qb.2) (k2:=true) (u2:=wa2) (v2:=wa3) (q2:=qa.2) (hl:=cbo)) (.c (j:=6) rfl (.c (j:=4) rfl .n)) ?_
   rintro ⟨u4_1r2,u4_2r2⟩ -
   dsimp only [aq,nq,cq]
   exact zH (hD6 (u4_1r2,u4_2r2)) kr (mR rfl) .rfl .rfl ((.of [0,1,2,3,4,5,6,7,8,9] rfl):SelR _ _ _)
  ·
   refine zma rfl rfl rfl rfl (zn zr43 rfl) (fun u11_1r2 _=> ?_)
   exact zH (hD7 u11_1r2) kr (mR rfl) .rfl .rfl ((.of [0,1,2,3,4,5,6,7,8] rfl):SelR _ _ _)
 refine zca (X:=Wd×Wd×Wd×Wd×Wd×Wd×Nat) (k':=1) (L':=(lb 13 4095)) (fun (u4_1,u4_2,u9_1,u9_2,u10_1,u10_2,u11_1)=>([(7,yc (some ⟨u11_1,0,none⟩)),(19,.agg (cw [u10_1,u10_2]).toArray),(6,yc (some ⟨b4,0,none⟩)),(5,yc (some ⟨b3,0,none⟩)),(4,yc (some ⟨b2,0,none⟩)),(3,yc (some ⟨b1,0,none⟩))],[boxA u11_1 43 (cw [wz,wz])],[boxA b4 43 (cw [wz,wz]),boxA b3 69 (cw [wd0,wd1,wd2,wd3]),boxA b2 69 (cw [wb0,wb1,wb2,wb3]),boxA b1 69 (cw [wa0,wa1,wa2,wa3])],[qF true u10_1 u10_2 ((qb.1 - qa.1)*(qd.2 - qa.2)),qF true u9_1 u9_2 (qd.2 - qa.2),qF true u4_1 u4_2 (qb.1 - qa.1),qF true wa0 wa1 (qa.1),qF true wa2 wa3 (qa.2),qF true wb0 wb1 (qb.1),qF true wb2 wb3 (qb.2),qF true wd0 wd1 (qd.1),qF true wd2 wd3 (qd.2)])) ?_ (fun hD1=> ?_)
 ·
  rintro ⟨u4_1,u4_2,u9_1,u9_2,u10_1,u10_2,u11_1⟩
  dsimp only [cw]
  refine zya 12 kr ?_
  ·
   refine zr kr rfl rfl rfl rfl rfl sz43 rfl (.t4 .nil) ?_
   exact zH (hD0 (u4_1,u4_2,u9_1,u9_2,u10_1,u10_2,u11_1)) kr (mR rfl) .rfl .rfl ((.of [0,1,2,3,4,5,6,7,8] rfl):SelR _ _ _)
 refine zca (X:=Wd×Wd×Wd×Wd×Wd×Wd) (k':=2) (L':=(lb 13 2047)) (fun (u4_1,u4_2,u9_1,u9_2,u10_1,u10_2)=>([(19,.agg (cw [u10_1,u10_2]).toArray),(6,yc (some ⟨b4,0,none⟩)),(5,yc (some ⟨b3,0,none⟩)),(4,yc (some ⟨b2,0,none⟩)),(3,yc (some ⟨b1,0,none⟩))],[],[boxA b4 43 (cw [wz,wz]),boxA b3 69 (cw [wd0,wd1,wd2,wd3]),boxA b2 69 (cw [wb0,wb1,wb2,wb3]),boxA b1 69 (cw [wa0,wa1,wa2,wa3])],[qF true u10_1 u10_2 ((qb.1 - qa.1)*(qd.2 - qa.2)),qF true u9_1 u9_2 (qd.2 - qa.2),qF true u4_1 u4_2 (qb.1 - qa.1),qF true wa0 wa1 (qa.1),qF true wa2 wa3 (qa.2),qF true wb0 wb1 (qb.1),qF true wb2 wb3 (qb.2),qF true wd0 wd1 (qd.1),qF true wd2 wd3 (qd.2)])) ?_ (fun hD2=> ?_)
 ·
  rintro ⟨u4_1,u4_2,u9_1,u9_2,u10_1,u10_2⟩
  dsimp only [cw]
  refine zya 11 kr ?_
  ·
   refine zma rfl rfl rfl rfl (zn zr43 rfl) (fun u11_1 _=> ?_)
   exact zH (hD1 (u4_1,u4_2,u9_1,u9_2,u10_1,u10_2,u11_1)) kr (mR rfl) .rfl .rfl ((.of [0,1,2,3,4,5,6,7,8] rfl):SelR _ _ _)
 refine zca (X:=Wd×Wd×Wd×Wd×Nat) (k':=2) (L':=(lb 13 3071)) (fun (u4_1,u4_2,u9_1,u9_2,u11_1)=>([(7,yc (some ⟨u11_1,0,none⟩)),(18,.agg (cw [u9_1,u9_2]).toArray),(13,.agg (cw [u4_1,u4_2]).toArray),(6,yc (some ⟨b4,0,none⟩)),(5,yc (some ⟨b3,0,none⟩)),(4,yc (some ⟨b2,0,none⟩)),(3,yc (some ⟨b1,0,none⟩))],[boxA u11_1 43 (cw [wz,wz])],[boxA b4 43 (cw [wz,wz]),boxA b3 69 (cw [wd0,wd1,wd2,wd3]),boxA b2 69 (cw [wb0,wb1,wb2,wb3]),boxA b1 69 (cw [wa0,wa1,wa2,wa3])],[qF true u9_1 u9_2 (qd.2 - qa.2),qF true u4_1 u4_2 (qb.1 - qa.1),qF true wa0 wa1 (qa.1),qF true wa2 wa3 (qa.2),qF true wb0 wb1 (qb.1),qF true wb2 wb3 (qb.2),qF true wd0 wd1 (qd.1),qF true wd2 wd3 (qd.2)])) ?_ (fun hD3=> ?_)
 ·
  rintro ⟨u4_1,u4_2,u9_1,u9_2,u11_1⟩
  dsimp only [cw]
  refine zya 10 kr ?_
  ·
   refine zq rfl rfl rfl rfl (.c rfl (.c rfl .n)) ce25 (zSa (k1:=true) (u1:=u4_1) (v1:=u4_2) (q1:=qb.1 - qa.1) (k2:=true) (u2:=u9_1) (v2:=u9_2) (q2:=qd.2 - qa.2) (hl:=cbo)) (.c (j:=1) rfl (.c (j:=0) rfl .n)) ?_
   rintro ⟨u10_1,u10_2⟩ -
   dsimp only [aq,nq,cq]
   exact zH (hD1 (u4_1,u4_2,u9_1,u9_2,u10_1,u10_2,u11_1)) kr (mR rfl) .rfl .rfl ((.of [0,1,2,3,4,5,6,7,8] rfl):SelR _ _ _)
 refine zca (X:=Wd×Wd×Wd×Wd) (k':=3) (L':=(lb 13 1023)) (fun (u4_1,u4_2,u9_1,u9_2)=>([(18,.agg (cw [u9_1,u9_2]).toArray),(13,.agg (cw [u4_1,u4_2]).toArray),(6,yc (some ⟨b4,0,none⟩)),(5,yc (some ⟨b3,0,none⟩)),(4,yc (some ⟨b2,0,none⟩)),(3,yc (some ⟨b1,0,none⟩))],[],[boxA b4 43 (cw [wz,wz]),boxA b3 69 (cw [wd0,wd1,wd2,wd3]),boxA b2 69 (cw [wb0,wb1,wb2,wb3]),boxA b1 69 (cw [wa0,wa1,wa2,wa3])],[qF true u9_1 u9_2 (qd.2 - qa.2),qF true u4_1 u4_2 (qb.1 - qa.1),qF true wa0 wa1 (qa.1),qF true wa2 wa3 (qa.2),qF true wb0 wb1 (qb.1),qF true wb2 wb3 (qb.2),qF true wd0 wd1 (qd.1),qF true wd2 wd3 (qd.2)])) ?_ (fun hD4=> ?_)
 ·
  rintro ⟨u4_1,u4_2,u9_1,u9_2⟩
  dsimp only [cw]
  refine zdb 10 11 kr ?_ ?_
  ·
   refine zq rfl rfl rfl rfl (.c rfl (.c rfl .n)) ce25 (zSa (k1:=true) (u1:=u4_1) (v1:=u4_2) (q1:=qb.1 - qa.1) (k2:=true) (u2:=u9_1) (v2:=u9_2) (q2:=qd.2 - qa.2) (hl:=cbo)) (.c (j:=1) rfl (.c (j:=0) rfl .n)) ?_
   rintro ⟨u10_1,u10_2⟩ -
   dsimp only [aq,nq,cq]
   exact zH (hD2 (u4_1,u4_2,u9_1,u9_2,u10_1,u10_2)) kr (mR rfl) .rfl .rfl ((.of [0,1,2,3,4,5,6,7,8] rfl):SelR _ _ _)
  ·
   refine zma rfl rfl rfl rfl (zn zr43 rfl) (fun u11_1 _=> ?_)
   exact zH (hD3 (u4_1,u4_2,u9_1,u9_2,u11_1)) kr (mR rfl) .rfl .rfl ((.of [0,1,2,3,4,5,6,7] rfl):SelR _ _ _)
 refine zca (X:=Wd×Wd×Nat) (k':=3) (L':=(lb 13 2559)) (fun (u4_1,u4_2,u11_1)=>([(7,yc (some ⟨u11_1,0,none⟩)),(13,.agg (cw [u4_1,u4_2]).toArray),(17,.agg (cw [wa2,wa3]).toArray),(15,.agg (cw [wd2,wd3]).toArray),(6,yc (some ⟨b4,0,none⟩)),(5,yc (some ⟨b3,0,none⟩)),(4,yc (some ⟨b2,0,none⟩)),(3,yc (some ⟨b1,0,none⟩))],[boxA u11_1 43 (cw [wz,wz])],[boxA b4 43 (cw [wz,wz]),boxA b3 69 (cw [wd0,wd1,wd2,wd3]),boxA b2 69 (cw [wb0,wb1,wb2,wb3]),boxA b1 69 (cw [wa0,wa1,wa2,wa3])],[qF true u4_1 u4_2 (qb.1 - qa.1),qF true wa0 wa1 (qa.1),qF true wa2 wa3 (qa.2),qF true wb0 wb1 (qb.1),qF true wb2 wb3 (qb.2),qF true wd0 wd1 (qd.1),qF true wd2 wd3 (qd.2)])) ?_ (fun hD5=> ?_)
 ·
  rintro ⟨u4_1,u4_2,u11_1⟩
  dsimp only [cw]
  refine zya 9 kr ?_
  ·
   refine zq rfl rfl rfl rfl (.c rfl (.c rfl .n)) ce71 (zCa (k1:=true) (u1:=wd2) (v1:=wd3) (q1:=qd.2) (k2:=true) (u2:=wa2) (v2:=wa3) (q2:=qa.2) (hl:=cbo)) (.c (j:=6) rfl (.c (j:=2) rfl .n)) ?_
   rintro ⟨u9_1,u9_2⟩ -
   dsimp only [aq,nq,cq]
   exact zH (hD3 (u4_1,u4_2,u9_1,u9_2,u11_1)) kr (mR rfl) .rfl .rfl ((.of [0,1,2,3,4,5,6,7] rfl):SelR _ _ _)
 refine zca (X:=Wd×Wd) (k':=4) (L':=(lb 13 511)) (fun (u4_1,u4_2)=>([(13,.agg (cw [u4_1,u4_2]).toArray),(17,.agg (cw [wa2,wa3]).toArray),(15,.agg (cw [wd2,wd3]).toArray),(6,yc (some ⟨b4,0,none⟩)),(5,yc (some ⟨b3,0,none⟩)),(4,yc (some ⟨b2,0,none⟩)),(3,yc (some ⟨b1,0,none⟩))],[],[boxA b4 43 (cw [wz,wz]),boxA b3 69 (cw [wd0,wd1,wd2,wd3]),boxA b2 69 (cw [wb0,wb1,wb2,wb3]),boxA b1 69 (cw [wa0,wa1,wa2,wa3])],[qF true u4_1 u4_2 (qb.1 - qa.1),qF true wa0 wa1 (qa.1),qF true wa2 wa3 (qa.2),qF true wb0 wb1 (qb.1),qF true wb2 wb3 (qb.2),qF true wd0 wd1 (qd.1),qF true wd2 wd3 (qd.2)])) ?_ (fun hD6=> ?_)
 ·
  rintro ⟨u4_1,u4_2⟩
  dsimp only [cw]
  refine zdb 9 11 kr ?_ ?_
  ·
   refine zq rfl rfl rfl rfl (.c rfl (.c rfl .n)) ce71 (zCa (k1:=true) (u1:=wd2) (v1:=wd3) (q1:=qd.2) (k2:=true) (u2:=wa2) (v2:=wa3) (q2:=qa.2) (hl:=cbo)) (.c (j:=6) rfl (.c (j:=2) rfl .n)) ?_
   rintro ⟨u9_1,u9_2⟩ -
   dsimp only [aq,nq,cq]
   exact zH (hD4 (u4_1,u4_2,u9_1,u9_2)) kr (mR rfl) .rfl .rfl ((.of [0,1,2,3,4,5,6,7] rfl):SelR _ _ _)
  ·
   refine zma rfl rfl rfl rfl (zn zr43 rfl) (fun u11_1 _=> ?_)
   exact zH (hD5 (u4_1,u4_2,u11_1)) kr (mR rfl) .rfl .rfl ((.of [0,1,2,3,4,5,6] rfl):SelR _ _ _)
 refine zca (X:=Nat) (k':=4) (L':=(lb 13 2543)) (fun u11_1=>([(7,yc (some ⟨u11_1,0,none⟩)),(17,.agg (cw [wa2,wa3]).toArray),(15,.agg (cw [wd2,wd3]).toArray),(12,.agg (cw [wa0,wa1]).toArray),(10,.agg (cw [wb0,wb1]).toArray),(6,yc (some ⟨b4,0,none⟩)),(5,yc (some ⟨b3,0,none⟩)),(4,yc (some ⟨b2,0,none⟩)),(3,yc (some ⟨b1,0,none⟩))],[boxA u11_1 43 (cw [wz,wz])],[boxA b4 43 (cw [wz,wz]),boxA b3 69 (cw [wd0,wd1,wd2,wd3]),boxA b2 69 (cw [wb0,wb1,wb2,wb3]),boxA b1 69 (cw [wa0,wa1,wa2,wa3])],[qF true wa0 wa1 (qa.1),qF true wa2 wa3 (qa.2),qF true wb0 wb1 (qb.1),qF true wb2 wb3 (qb.2),qF true wd0 wd1 (qd.1),qF true wd2 wd3 (qd.2)])) ?_ (fun hD7=> ?_)
 ·
  rintro u11_1
  dsimp only [cw]
  refine zya 4 kr ?_
  ·
   refine zq rfl rfl rfl rfl (.c rfl (.c rfl .n)) ce71 (zCa (k1:=true) (u1:=wb0) (v1:=wb1) (q1:=qb.1) (k2:=true) (u2:=wa0) (v2:=wa1) (q2:=qa.1) (hl:=cbo)) (.c (j:=2) rfl (.c (j:=0) rfl .n)) ?_
   rintro ⟨u4_1,u4_2⟩ -
   dsimp only [aq,nq,cq]
   exact zH (hD5 (u4_1,u4_2,u11_1)) kr (mR rfl) .rfl .rfl ((.of [0,1,2,3,4,5,6] rfl):SelR _ _ _)
 refine zdb 4 11 kr ?_ ?_
 ·
  refine zq rfl rfl rfl rfl (.c rfl (.c rfl .n)) ce71 (zCa (k1:=true) (u1:=wb0) (v1:=wb1) (q1:=qb.1) (k2:=true) (u2:=wa0) (v2:=wa1) (q2:=qa.1) (hl:=cbo)) (.c (j:=2) rfl (.c (j:=0) rfl .n)) ?_
  rintro ⟨u4_1,u4_2⟩ -
  dsimp only [aq,nq,cq]
  exact zH (hD6 (u4_1,u4_2)) kr (mR rfl) .rfl .rfl ((.of [0,1,2,3,4,5,6] rfl):SelR _ _ _)
 ·
  refine zma rfl rfl rfl rfl (zn zr43 rfl) (fun u11_1 _=> ?_)
  exact zH (hD7 u11_1) kr (mR rfl) .rfl .rfl ((.of [0,1,2,3,4,5] rfl):SelR _ _ _)
end Go.Proofs.YtjcpbhlijoigfaaGreat.Sp
namespace Go.Proofs.YtjcpbhlijoigfaaGreat.Sp
open Go
set_option linter.unusedVariables false
set_option maxRecDepth 100000
set_option maxHeartbeats 2000000
theorem zsc {p:Option Addr} {n:Nat} {cap:Nat} {l:List Pg.Q2} {wa0:Wd} {wa1:Wd} {wa2:Wd} {wa3:Wd} {qa:Pg.Q2} {wb0:Wd} {wb1:Wd} {wb2:Wd} {wb3:Wd} {qb:Pg.Q2} {K:Nat} (hn:l.length=n) (hpa:Pg.hp 3 qa) (hpb:Pg.hp 3 qb) (hbq:Pg.bq K l) (hK:9*K+72≤500000) (hnK:n≤100000):Con yk 63 [.slice p n cap,.agg #[wa0.b,wa0.l,wa1.b,wa1.l,wa2.b,wa2.l,wa3.b,wa3.l],.agg #[wb0.b,wb0.l,wb1.b,wb1.l,wb2.b,wb2.l,wb3.b,wb3.l]] [] [slF rR p cap l,qF true wa0 wa1 (qa.1),qF true wa2 wa3 (qa.2),qF true wb0 wb1 (qb.1),qF true wb2 wb3 (qb.2)] (Y:=(Option Addr)×Nat) (fun y=>True) (fun y=> .slice (y.1) ((yv qa qb l).length) (y.2)) (fun y=>[rowA 69 rR (y.1) (y.2) (yv qa qb l)]) (fun y=>[]):=by
 refine zo Tryz.func63 rfl rfl rfl (fun c=> ?_)
 show RunC _ _ _ _ _ [(0,.slice p n cap),(1,.agg #[wa0.b,wa0.l,wa1.b,wa1.l,wa2.b,wa2.l,wa3.b,wa3.l]),(2,.agg #[wb0.b,wb0.l,wb1.b,wb1.l,wb2.b,wb2.l,wb3.b,wb3.l])] [] [slF rR p cap l,qF true wa0 wa1 (qa.1),qF true wa2 wa3 (qa.2),qF true wb0 wb1 (qb.1),qF true wb2 wb3 (qb.2)]
 refine zea 0 rfl (fun hL0=> ?_)
 refine zh<|za<|zP rfl rfl (zS rfl rfl) (fun b1=> ?_)
 refine zP rfl rfl (zS rfl rfl) (fun b2=> ?_)
 refine e_p (zd rfl)<|zi<|ze<|zh<|za<|zKa rfl rfl (zva rR yi inf69) (fun b3 _=> ?_)
 refine e_p (zd rfl)<|zi<|ze<|zh<|zh<|za<|e_p (zd rfl)<|zi<|ze<|zE<|zra (X:=Nat×(Option Addr)×Nat) (fun x:Nat×(Option Addr)×Nat=>x.1≤n) (fun x=>[(7,.slice (x.2.1) ((yB n qa qb l x.1).length) (x.2.2)),(8,ya yb ((x.1:Nat):Int)),(5,yc (some ⟨b2,0,none⟩)),(4,yc (some ⟨b1,0,none⟩)),(0,.slice p n cap)]) (fun x=>[rowA 69 rR (x.2.1) (x.2.2) (yB n qa qb l x.1),boxA b2 69 (cw [wb0,wb1,wb2,wb3]),boxA b1 69 (cw [wa0,wa1,wa2,wa3])]) (fun x=>[slF rR p cap l,qF true wa0 wa1 (qa.1),qF true wa2 wa3 (qa.2),qF true wb0 wb1 (qb.1),qF true wb2 wb3 (qb.2)]) (fun x:Nat×(Option Addr)×Nat=>n - x.1) (0,some ⟨b3,0,none⟩,0) (show 0≤n from by exact Nat.zero_le _) ((.e rfl cgs (.e rfl cgs (.of rfl))):SubM _ _) (ho:=((.e (i:=0) rfl cgs (.of [0,0] rfl)):PickO _ _ _)) ((.of [0,1,2,3,4] rfl):SelR _ _ _) ?_
 rintro ⟨i,p7,c7⟩ hI
 replace hI:i≤n:=hI
 try dsimp only [cw]
 refine zh<|zh<|za<|e_mv rfl<|e_mv rfl<|e_p (zR yi rfl)<|e_p (zda rfl rfl)<|zi<|ze<|zJ rfl (fun h4=> ?_) (fun h4=> ?_)
 ·
  have hm1:(i+1)%n<n:=Nat.mod_lt _ om
  have hpi:Pg.hp K (ye l i):=Pg.bq_at hbq om
  have hpj:Pg.hp K (ye l ((i+1)%n)):=Pg.bq_at hbq om
  have hsi:=Pg.hq_sdq hpa hpb hpi
  have hsj:=Pg.hq_sdq hpa hpb hpj
  obtain ⟨hpi1,hpi2⟩:=id hpi
  obtain ⟨hpj1,hpj2⟩:=id hpj
  have hsg:=Pg.sg_mul (Pg.sdq qa qb (ye l i)) (Pg.sdq qa qb (ye l ((i+1)%n)))
  have hcl:=Pg.clN_len (n:=n) (a:=qa) (b:=qb) (l:=l) i
  refine zC<|ze<|zh<|zE<|zh<|za<|e_mv rfl<|e_mv rfl<|e_p (zO (z:=(((i+1):Nat):Int)) rfl rfl (w64 om))<|e_mv rfl<|e_p (zR yi rfl)<|e_p (zza (z:=((((i+1)%n):Nat):Int)) rfl rfl om (remN om om))<|r_vl rfl rfl (zIa (x0:=(ye l ((i+1)%n))) 0 ((i+1)%n) rfl yi sz69 rfl cbs rfl rfl (gD (d:=((0:Rat),(0:Rat))) om)) ?_
  rintro ⟨b5,o6,w7,w8,w9,w10⟩ -
  dsimp only [aq,nq,cq]
  refine zKd open_rR<|e_ru (zt (j:=0) 0 ty69 rfl rfl rfl (.t8 .nil))<|zP rfl rfl (zn zr69 rfl) (fun b11=> ?_)
  refine zm 0 rfl rfl rfl rfl rfl sz69 rfl (.t8 .nil) .z<|zi<|ze<|zh<|zY (OW:=[]) (O:=[boxA b11 69 (cw [w7,w8,w9,w10]),rowA 69 rR p7 c7 (yB n qa qb l i),boxA b2 69 (cw [wb0,wb1,wb2,wb3]),boxA b1 69 (cw [wa0,wa1,wa2,wa3])]) 8 mixed (.then (.block (.then (.then (.block (.then .ret)))))) kr<|e_u 0 rfl rfl (zb 3 ty69 rfl rfl (.t8 .nil))<|e_u 1 rfl rfl (zb 2 ty69 rfl rfl (.t8 .nil))<|e_dm 2 rfl rfl rfl<|e_dm 3 rfl rfl rfl<|d_vl 4 rfl rfl kr kr rfl rfl (zIa (x0:=(ye l i)) 3 i rfl yi sz69 rfl cbs rfl rfl (gD (d:=((0:Rat),(0:Rat))) om)) ?_
  rintro ⟨b12,o13,w14,w15,w16,w17⟩ -
  dsimp only [aq,nq,cq]
  refine zRb open_rR<|e_u 5 rfl rfl (zt (j:=0) 0 ty69 rfl rfl rfl (.t8 .nil))<|zNb (m':=[(36,.agg (cw [w14,w15,w16,w17]).toArray),(32,.agg (cw [wb0,wb1,wb2,wb3]).toArray),(31,.agg (cw [wa0,wa1,wa2,wa3]).toArray),(9,yc (some ⟨b11,0,none⟩)),(7,.slice p7 ((yB n qa qb l i).length) c7),(8,ya yb ((i:Nat):Int)),(5,yc (some ⟨b2,0,none⟩)),(4,yc (some ⟨b1,0,none⟩)),(0,.slice p n cap)]) (R':=[qF true w14 w15 ((ye l i).1),qF true w16 w17 ((ye l i).2),qF true w7 w8 ((ye l ((i+1)%n)).1),qF true w9 w10 ((ye l ((i+1)%n)).2),slF rR p cap l,qF true wa0 wa1 (qa.1),qF true wa2 wa3 (qa.2),qF true wb0 wb1 (qb.1),qF true wb2 wb3 (qb.2)]) (mR rfl) (List.Perm.refl _) (List.Perm.refl _) ((.of [1,2,4,5,6,7,8,9,10] rfl):SelR _ _ _)<|zca (X:=Wd×Wd×Nat) (k':=0) (L':=(lb 9 511)) (fun (u6_1,u6_2,u7_1)=>([(10,yc (some ⟨u7_1,0,none⟩)),(9,yc (some ⟨b11,0,none⟩)),(7,.slice p7 ((yB n qa qb l i).length) c7),(8,ya yb ((i:Nat):Int)),(5,yc (some ⟨b2,0,none⟩)),(4,yc (some ⟨b1,0,none⟩)),(0,.slice p n cap)],[boxA u7_1 43 (cw [u6_1,u6_2])],[boxA b11 69 (cw [w7,w8,w9,w10]),rowA 69 rR p7 c7 (yB n qa qb l i),boxA b2 69 (cw [wb0,wb1,wb2,wb3]),boxA b1 69 (cw [wa0,wa1,wa2,wa3])],[qF true u6_1 u6_2 (Pg.sdq qa qb (ye l i)),qF true w7 w8 ((ye l ((i+1)%n)).1),qF true w9 w10 ((ye l ((i+1)%n)).2),slF rR p cap l,qF true wa0 wa1 (qa.1),qF true wa2 wa3 (qa.2),qF true wb0 wb1 (qb.1),qF true wb2 wb3 (qb.2)])) ?_ (fun hD0=> ?_)
  ·
   rintro ⟨u6_1,u6_2,u7_1⟩
   dsimp only [cw]
   refine zW kr<|ze<|zh<|za<|e_ru (zb 4 ty69 rfl rfl (.t8 .nil))<|e_ru (zb 3 ty69 rfl rfl (.t8 .nil))<|e_ru (zb 1 ty69 rfl rfl (.t8 .nil))<|zG rfl rfl (.c rfl (.c rfl (.c rfl .n))) ce103 (zBc (wa0:=wa0) (wa1:=wa1) (wa2:=wa2) (wa3:=wa3) (qa:=qa) (wb0:=wb0) (wb1:=wb1) (wb2:=wb2) (wb3:=wb3) (qb:=qb) (wd0:=w7) (wd1:=w8) (wd2:=w9) (wd3:=w10) (qd:=(ye l ((i+1)%n))) (K:=K) (hpa:=ass) (hpb:=ass) (hpd:=cbo) (hK:=cbo)) (.c (j:=4) rfl (.c (j:=5) rfl (.c (j:=6) rfl (.c (j:=7) rfl (.c (j:=1) rfl (.c (j:=2) rfl .n)))))) ?_
   rintro ⟨w318,w419⟩ -
   dsimp only [aq,nq,cq]
   refine zP rfl rfl (zn zr43 rfl) (fun b20=> ?_)
   refine zm 0 rfl rfl rfl rfl rfl sz43 rfl (.t4 .nil) .z<|zi<|ze ?_
   obtain ⟨sv,hsv⟩:∃z:Rat,z=Pg.sdq qa qb (ye l i):=⟨_,rfl⟩
   rw [← hsv]
   obtain ⟨tv,htv⟩:∃z:Rat,z=Pg.sdq qa qb (ye l ((i+1)%n)):=⟨_,rfl⟩
   rw [← htv]
   simp only [← hsv,←htv] at hsi hsj hsg
   refine zGa (X:=(List Pg.Q2)×(Option Addr)×Nat) (fun x=>x.1=yB n qa qb l i++(if 0≤yN sv then [(ye l i)] else [])) (fun x=>[(7,.slice (x.2.1) (x.1.length) (x.2.2)),(11,yc (some ⟨b20,0,none⟩)),(10,yc (some ⟨u7_1,0,none⟩)),(9,yc (some ⟨b11,0,none⟩)),(8,ya yb ((i:Nat):Int)),(5,yc (some ⟨b2,0,none⟩)),(4,yc (some ⟨b1,0,none⟩)),(0,.slice p n cap)]) (fun x=>[boxA b20 43 (cw [w318,w419]),boxA u7_1 43 (cw [u6_1,u6_2]),boxA b11 69 (cw [w7,w8,w9,w10]),rowA 69 rR (x.2.1) (x.2.2) (x.1),boxA b2 69 (cw [wb0,wb1,wb2,wb3]),boxA b1 69 (cw [wa0,wa1,wa2,wa3])]) (fun x=>[qF true w318 w419 tv,qF true u6_1 u6_2 sv,qF true w7 w8 ((ye l ((i+1)%n)).1),qF true w9 w10 ((ye l ((i+1)%n)).2),slF rR p cap l,qF true wa0 wa1 (qa.1),qF true wa2 wa3 (qa.2),qF true wb0 wb1 (qb.1),qF true wb2 wb3 (qb.2)]) ?_ ?_
   ·
    refine zh<|za<|e_ru (zb 1 ty43 rfl rfl (.t4 .nil))<|zQ rfl rfl (.c rfl .n) ce66 (zDb (k1:=true) (u1:=u6_1) (v1:=u6_2) (q1:=sv) (hl:=cbo)) (.c (j:=1) rfl .n)<|e_p (zNa rfl rfl)<|zi<|ze<|zJ rfl (fun hin=> ?_) (fun hin=> ?_)
    ·
     refine za<|e_mv rfl<|e_mv rfl<|e_mv rfl<|r_vl rfl rfl (zIa (x0:=(ye l i)) 4 i rfl yi sz69 rfl cbs rfl rfl (gD (d:=((0:Rat),(0:Rat))) om)) ?_
     rintro ⟨b21,o22,w23,w24,w25,w26⟩ -
     dsimp only [aq,nq,cq]
     refine zKd open_rR<|e_ru (zt (j:=0) 0 ty69 rfl rfl rfl (.t8 .nil))<|zKa rfl rfl (zPa (r:=rR) (k:=1) yi inf69 rfl dd dd dd (.c (x:=(((ye l i).1),((ye l i).2))) (cs:=[w23.b,w23.l,w24.b,w24.l,w25.b,w25.l,w26.b,w26.l]) (w23,w24,w25,w26) rfl rfl rfl (fun g hr=>⟨Holds.get 1 rfl hr,Holds.get 2 rfl hr⟩) .n)) (fun b27 _=> ?_)
     refine zka 0 rfl .z<|zQa 4 rfl rfl rfl (zua 0 rfl yi inf69 dd rfl rfl cbs rfl cbs om om) (fun _=>(.s (.s (.s (.s .z))))) ?_
     rintro ⟨p28,c29⟩ -
     dsimp only [aq,nq,cq]
     refine e_p (zd rfl)<|zi ?_
     exact zha (((yB n qa qb l i)++([(((ye l i).1),((ye l i).2))])),p28,c29) (show ((yB n qa qb l i)++([(((ye l i).1),((ye l i).2))]))=yB n qa qb l i++(if 0≤yN sv then [(ye l i)] else []) from by rw [if_pos hin]) ((.e rfl cgs (.of rfl)):SubM _ _) (ho:=((.of [1,1,1,1,1,1] rfl):PickO _ _ _)) ((.of [4,5,6,7,8,9,10,11,12] rfl):SelR _ _ _)
    ·
     refine zC ?_
     exact zha ((yB n qa qb l i),p7,c7) (show (yB n qa qb l i)=yB n qa qb l i++(if 0≤yN sv then [(ye l i)] else []) from by rw [if_neg hin,List.append_nil]) (mR rfl) (ho:=((.of [0,0,0,0,0,0] rfl):PickO _ _ _)) ((.of [0,1,2,3,4,5,6,7,8] rfl):SelR _ _ _)
   ·
    rintro ⟨o2,p5,c5⟩ ho2
    replace ho2:o2=yB n qa qb l i++(if 0≤yN sv then [(ye l i)] else []):=ho2
    dsimp only [cw]
    have ho2l:o2.length≤2*i+1:=by rw [ho2,List.length_append];split <;> simp <;> omega
    refine zh<|zY (OW:=[]) (O:=[boxA b20 43 (cw [w318,w419]),boxA u7_1 43 (cw [u6_1,u6_2]),boxA b11 69 (cw [w7,w8,w9,w10]),rowA 69 rR p5 c5 o2,boxA b2 69 (cw [wb0,wb1,wb2,wb3]),boxA b1 69 (cw [wa0,wa1,wa2,wa3])]) 100000 mixed (.then (.block (.then (.then (.block (.then .ret)))))) kr<|e_u 0 rfl rfl (zb 1 ty43 rfl rfl (.t4 .nil))<|e_u 2 rfl rfl (zb 0 ty43 rfl rfl (.t4 .nil))<|e_one 1 (zta rfl rfl rfl rfl (.c rfl .n) ce66 (zDb (k1:=true) (u1:=u6_1) (v1:=u6_2) (q1:=sv) (hl:=cbo)) (.c (j:=1) rfl .n) ?_)
    refine e_one 3 (zta rfl rfl rfl rfl (.c rfl .n) ce66 (zDb (k1:=true) (u1:=w318) (v1:=w419) (q1:=tv) (hl:=cbo)) (.c (j:=0) rfl .n) ?_)
    refine e_pv 4 rfl rfl (zEa (z:=(yN sv*yN tv)) rfl rfl (w64 om))<|e_pv 5 rfl rfl (zda rfl rfl)<|zW kr<|ze<|zJ rfl (fun hcr=> ?_) (fun hcr=> ?_)
    ·
     have hne:=Pg.opp hcr
     obtain ⟨hnd,hnf,⟨hnw1,hnw2⟩,hn1,hn2,⟨hnp1,hnp2⟩⟩:=Pg.nb hsi hsj hne hpi hpj
     have hnw3:yz ((ye l ((i+1)%n)).1 - (ye l i).1)≤2*K+1:=hnw1
     have hnw4:yz ((ye l ((i+1)%n)).2 - (ye l i).2)≤2*K+1:=hnw2
     have hn3:yz (sv / (sv - tv)*((ye l ((i+1)%n)).1 - (ye l i).1))≤8*K+71:=hn1
     have hn4:yz (sv / (sv - tv)*((ye l ((i+1)%n)).2 - (ye l i).2))≤8*K+71:=hn2
     refine zh<|zY (OW:=[]) (O:=[boxA b20 43 (cw [w318,w419]),boxA u7_1 43 (cw [u6_1,u6_2]),boxA b11 69 (cw [w7,w8,w9,w10]),rowA 69 rR p5 c5 o2,boxA b2 69 (cw [wb0,wb1,wb2,wb3]),boxA b1 69 (cw [wa0,wa1,wa2,wa3])]) 9 mixed (.then (.block (.then (.then (.block (.then .ret)))))) kr<|e_u 0 rfl rfl (zb 1 ty43 rfl rfl (.t4 .nil))<|e_u 1 rfl rfl (zb 1 ty43 rfl rfl (.t4 .nil))<|e_u 2 rfl rfl (zb 0 ty43 rfl rfl (.t4 .nil))<|zNb (m':=[(61,.agg (cw [w318,w419]).toArray),(60,.agg (cw [u6_1,u6_2]).toArray),(59,.agg (cw [u6_1,u6_2]).toArray),(7,.slice p5 (o2.length) c5),(9,yc (some ⟨b11,0,none⟩)),(8,ya yb ((i:Nat):Int)),(5,yc (some ⟨b2,0,none⟩)),(4,yc (some ⟨b1,0,none⟩)),(0,.slice p n cap)]) (R':=[qF true w318 w419 tv,qF true u6_1 u6_2 sv,qF true w7 w8 ((ye l ((i+1)%n)).1),qF true w9 w10 ((ye l ((i+1)%n)).2),slF rR p cap l,qF true wa0 wa1 (qa.1),qF true wa2 wa3 (qa.2),qF true wb0 wb1 (qb.1),qF true wb2 wb3 (qb.2)]) (mR rfl) (List.Perm.refl _) (List.Perm.refl _) ((.of [0,1,2,3,4,5,6,7,8] rfl):SelR _ _ _)<|zca (X:=Wd×Wd×Nat) (k':=0) (L':=(lb 11 2047)) (fun (u4_1r2,u4_2r2,u8_1r2)=>([(12,yc (some ⟨u8_1r2,0,none⟩)),(7,.slice p5 (o2.length) c5),(9,yc (some ⟨b11,0,none⟩)),(8,ya yb ((i:Nat):Int)),(5,yc (some ⟨b2,0,none⟩)),(4,yc (some ⟨b1,0,none⟩)),(0,.slice p n cap)],[boxA u8_1r2 43 (cw [u4_1r2,u4_2r2])],[boxA b20 43 (cw [w318,w419]),boxA u7_1 43 (cw [u6_1,u6_2]),boxA b11 69 (cw [w7,w8,w9,w10]),rowA 69 rR p5 c5 o2,boxA b2 69 (cw [wb0,wb1,wb2,wb3]),boxA b1 69 (cw [wa0,wa1,wa2,wa3])],[qF (decide ((sv - tv)≠0)) u4_1r2 u4_2r2 (sv / (sv - tv)),qF true w318 w419 tv,qF true u6_1 u6_2 sv,qF true w7 w8 ((ye l ((i+1)%n)).1),qF true w9 w10 ((ye l ((i+1)%n)).2),slF rR p cap l,qF true wa0 wa1 (qa.1),qF true wa2 wa3 (qa.2),qF true wb0 wb1 (qb.1),qF true wb2 wb3 (qb.2)])) ?_ (fun hD0=> ?_)
     ·
      rintro ⟨u4_1r2,u4_2r2,u8_1r2⟩
      dsimp only [cw]
      refine zW kr<|ze<|zh<|zwa (.c (i:=0) rfl (.c (i:=2) rfl (.c (i:=2) rfl (.c (i:=2) rfl (.c (i:=2) rfl .n)))))<|zY (OW:=[]) (O:=[boxA u8_1r2 43 (cw [u4_1r2,u4_2r2]),boxA b11 69 (cw [w7,w8,w9,w10]),rowA 69 rR p5 c5 o2,boxA b2 69 (cw [wb0,wb1,wb2,wb3]),boxA b1 69 (cw [wa0,wa1,wa2,wa3])]) 17 mixed (.then (.block (.then (.then (.block (.then .ret)))))) kr<|e_dm 0 rfl rfl rfl<|e_dm 1 rfl rfl rfl<|d_vl 2 rfl rfl kr kr rfl rfl (zIa (x0:=(ye l i)) 5 i rfl yi sz69 rfl cbs rfl rfl (gD (d:=((0:Rat),(0:Rat))) om)) ?_
      rintro ⟨b30,o31,w32,w33,w34,w35⟩ -
      dsimp only [aq,nq,cq]
      refine zRb open_rR<|e_pv 3 rfl rfl (zf yg rfl sz43 rfl rfl)<|e_u 4 rfl rfl (zt (j:=0) 0 ty43 rfl rfl rfl (.t4 .nil))<|e_u 5 rfl rfl (zb 0 ty43 rfl rfl (.t4 .nil))<|e_pv 6 rfl rfl (zf yg rfl sz43 rfl rfl)<|e_u 7 rfl rfl (zb 1 ty43 rfl rfl (.t4 .nil))<|e_dm 8 rfl rfl rfl<|e_dm 9 rfl rfl rfl<|d_vl 10 rfl rfl kr kr rfl rfl (zIa (x0:=(ye l i)) 8 i rfl yi sz69 rfl cbs rfl rfl (gD (d:=((0:Rat),(0:Rat))) om)) ?_
      rintro ⟨b36,o37,w38,w39,w40,w41⟩ -
      dsimp only [aq,nq,cq]
      refine zRb open_rR<|e_pv 11 rfl rfl (zf yg rfl sz43 rfl rfl)<|e_u 12 rfl rfl (zt (j:=0) 0 ty43 rfl rfl rfl (.t4 .nil))<|zNb (m':=[(78,.agg (cw [w38,w39]).toArray),(73,.agg (cw [w7,w8]).toArray),(71,.agg (cw [u4_1r2,u4_2r2]).toArray),(70,.agg (cw [w32,w33]).toArray),(12,yc (some ⟨u8_1r2,0,none⟩)),(7,.slice p5 (o2.length) c5),(9,yc (some ⟨b11,0,none⟩)),(8,ya yb ((i:Nat):Int)),(5,yc (some ⟨b2,0,none⟩)),(4,yc (some ⟨b1,0,none⟩)),(0,.slice p n cap)]) (R':=[qF true w38 w39 ((ye l i).1),qF true w40 w41 ((ye l i).2),qF true w32 w33 ((ye l i).1),qF true w34 w35 ((ye l i).2),qF (decide ((sv - tv)≠0)) u4_1r2 u4_2r2 (sv / (sv - tv)),qF true w318 w419 tv,qF true u6_1 u6_2 sv,qF true w7 w8 ((ye l ((i+1)%n)).1),qF true w9 w10 ((ye l ((i+1)%n)).2),slF rR p cap l,qF true wa0 wa1 (qa.1),qF true wa2 wa3 (qa.2),qF true wb0 wb1 (qb.1),qF true wb2 wb3 (qb.2)]) (mR rfl) (List.Perm.refl _) (List.Perm.refl _) ((.of [1,2,4,5,6,7,8,9,10,11,12,13,14,15] rfl):SelR _ _ _) ?_
      obtain ⟨fv,hfv⟩:∃z,z=sv / (sv - tv):=⟨_,rfl⟩
      rw [← hfv]
      simp only [← hfv] at hnf hn3 hn4
      refine zca (X:=Wd×Wd×Nat) (k':=0) (L':=(lb 18 262143)) (fun (u15_1r3,u15_2r3,u16_1r3)=>([(14,yc (some ⟨u16_1r3,0,none⟩)),(12,yc (some ⟨u8_1r2,0,none⟩)),(7,.slice p5 (o2.length) c5),(9,yc (some ⟨b11,0,none⟩)),(8,ya yb ((i:Nat):Int)),(5,yc (some ⟨b2,0,none⟩)),(4,yc (some ⟨b1,0,none⟩)),(0,.slice p n cap)],[boxA u16_1r3 43 (cw [u15_1r3,u15_2r3])],[boxA u8_1r2 43 (cw [u4_1r2,u4_2r2]),boxA b11 69 (cw [w7,w8,w9,w10]),rowA 69 rR p5 c5 o2,boxA b2 69 (cw [wb0,wb1,wb2,wb3]),boxA b1 69 (cw [wa0,wa1,wa2,wa3])],[qF true u15_1r3 u15_2r3 (((ye l i).1)+(fv*(((ye l ((i+1)%n)).1) - ((ye l i).1)))),qF (decide ((sv - tv)≠0)) u4_1r2 u4_2r2 fv,qF true w7 w8 ((ye l ((i+1)%n)).1),qF true w9 w10 ((ye l ((i+1)%n)).2),slF rR p cap l,qF true wa0 wa1 (qa.1),qF true wa2 wa3 (qa.2),qF true wb0 wb1 (qb.1),qF true wb2 wb3 (qb.2)])) ?_ (fun hD0=> ?_)
      ·
       rintro ⟨u15_1r3,u15_2r3,u16_1r3⟩
       dsimp only [cw]
       refine zW kr<|ze<|zh<|zY (OW:=[]) (O:=[boxA u16_1r3 43 (cw [u15_1r3,u15_2r3]),boxA u8_1r2 43 (cw [u4_1r2,u4_2r2]),boxA b11 69 (cw [w7,w8,w9,w10]),rowA 69 rR p5 c5 o2,boxA b2 69 (cw [wb0,wb1,wb2,wb3]),boxA b1 69 (cw [wa0,wa1,wa2,wa3])]) 17 mixed (.then (.block (.then (.then (.block (.then .ret)))))) kr<|e_dm 0 rfl rfl rfl<|e_dm 1 rfl rfl rfl<|d_vl 2 rfl rfl kr kr rfl rfl (zIa (x0:=(ye l i)) 4 i rfl yi sz69 rfl cbs rfl rfl (gD (d:=((0:Rat),(0:Rat))) om)) ?_
       rintro ⟨b42,o43,w44,w45,w46,w47⟩ -
       dsimp only [aq,nq,cq]
       refine zRb open_rR<|e_pv 3 rfl rfl (zf yg rfl sz43 rfl rfl)<|e_u 4 rfl rfl (zt (j:=4) 0 ty43 rfl rfl rfl (.s4 (.t4 .nil)))<|e_u 5 rfl rfl (zb 1 ty43 rfl rfl (.t4 .nil))<|e_pv 6 rfl rfl (zf yg rfl sz43 rfl rfl)<|e_u 7 rfl rfl (zb 2 ty43 rfl rfl (.s4 (.t4 .nil)))<|e_dm 8 rfl rfl rfl<|e_dm 9 rfl rfl rfl<|d_vl 10 rfl rfl kr kr rfl rfl (zIa (x0:=(ye l i)) 7 i rfl yi sz69 rfl cbs rfl rfl (gD (d:=((0:Rat),(0:Rat))) om)) ?_
       rintro ⟨b48,o49,w50,w51,w52,w53⟩ -
       dsimp only [aq,nq,cq]
       refine zRb open_rR<|e_pv 11 rfl rfl (zf yg rfl sz43 rfl rfl)<|e_u 12 rfl rfl (zt (j:=4) 0 ty43 rfl rfl rfl (.s4 (.t4 .nil)))<|zNb (m':=[(94,.agg (cw [w52,w53]).toArray),(89,.agg (cw [w9,w10]).toArray),(87,.agg (cw [u4_1r2,u4_2r2]).toArray),(86,.agg (cw [w46,w47]).toArray),(14,yc (some ⟨u16_1r3,0,none⟩)),(7,.slice p5 (o2.length) c5),(8,ya yb ((i:Nat):Int)),(5,yc (some ⟨b2,0,none⟩)),(4,yc (some ⟨b1,0,none⟩)),(0,.slice p n cap)]) (R':=[qF true w50 w51 ((ye l i).1),qF true w52 w53 ((ye l i).2),qF true w44 w45 ((ye l i).1),qF true w46 w47 ((ye l i).2),qF true u15_1r3 u15_2r3 (((ye l i).1)+(fv*(((ye l ((i+1)%n)).1) - ((ye l i).1)))),qF (decide ((sv - tv)≠0)) u4_1r2 u4_2r2 fv,qF true w7 w8 ((ye l ((i+1)%n)).1),qF true w9 w10 ((ye l ((i+1)%n)).2),slF rR p cap l,qF true wa0 wa1 (qa.1),qF true wa2 wa3 (qa.2),qF true wb0 wb1 (qb.1),qF true wb2 wb3 (qb.2)]) (mR rfl) (List.Perm.refl _) (List.Perm.refl _) ((.of [1,2,4,5,6,7,8,9,10,11,12,13,14] rfl):SelR _ _ _)<|zca (X:=Wd×Wd×Nat) (k':=0) (L':=(lb 18 262143)) (fun (u15_1r4,u15_2r4,u16_1r4)=>([(15,yc (some ⟨u16_1r4,0,none⟩)),(14,yc (some ⟨u16_1r3,0,none⟩)),(7,.slice p5 (o2.length) c5),(8,ya yb ((i:Nat):Int)),(5,yc (some ⟨b2,0,none⟩)),(4,yc (some ⟨b1,0,none⟩)),(0,.slice p n cap)],[boxA u16_1r4 43 (cw [u15_1r4,u15_2r4])],[boxA u16_1r3 43 (cw [u15_1r3,u15_2r3]),boxA u8_1r2 43 (cw [u4_1r2,u4_2r2]),boxA b11 69 (cw [w7,w8,w9,w10]),rowA 69 rR p5 c5 o2,boxA b2 69 (cw [wb0,wb1,wb2,wb3]),boxA b1 69 (cw [wa0,wa1,wa2,wa3])],[qF true u15_1r4 u15_2r4 (((ye l i).2)+(fv*(((ye l ((i+1)%n)).2) - ((ye l i).2)))),qF true u15_1r3 u15_2r3 (((ye l i).1)+(fv*(((ye l ((i+1)%n)).1) - ((ye l i).1)))),qF (decide ((sv - tv)≠0)) u4_1r2 u4_2r2 fv,qF true w7 w8 ((ye l ((i+1)%n)).1),qF true w9 w10 ((ye l ((i+1)%n)).2),slF rR p cap l,qF true wa0 wa1 (qa.1),qF true wa2 wa3 (qa.2),qF true wb0 wb1 (qb.1),qF true wb2 wb3 (qb.2)])) ?_ (fun hD0=> ?_)
       ·
        rintro ⟨u15_1r4,u15_2r4,u16_1r4⟩
        dsimp only [cw]
        refine zW kr<|ze<|za<|e_mv rfl<|e_ru (zb 1 ty43 rfl rfl (.t4 .nil))<|e_ru (zb 0 ty43 rfl rfl (.t4 .nil))<|e_p (zK zr69 rfl yg (.c sz43 (.c sz43 .n)) (.c rfl (.c rfl .n)) (.c rfl rfl rfl (.t4 .nil) (.c rfl rfl rfl (.s4 (.t4 .nil)) .n)))<|zKa rfl rfl (zPa (r:=rR) (k:=1) yi inf69 rfl dd dd dd (.c (x:=((((ye l i).1)+(fv*(((ye l ((i+1)%n)).1) - ((ye l i).1)))),(((ye l i).2)+(fv*(((ye l ((i+1)%n)).2) - ((ye l i).2)))))) (cs:=[u15_1r3.b,u15_1r3.l,u15_2r3.b,u15_2r3.l,u15_1r4.b,u15_1r4.l,u15_2r4.b,u15_2r4.l]) (u15_1r3,u15_2r3,u15_1r4,u15_2r4) rfl rfl rfl (fun g hr=>⟨Holds.get 1 rfl hr,Holds.get 0 rfl hr⟩) .n)) (fun b54 _=> ?_)
        refine zka 0 rfl .z<|zQa 5 rfl rfl rfl (zua 0 rfl yi inf69 dd rfl rfl cbs rfl cbs om om) (fun _=>(.s (.s (.s (.s (.s .z)))))) ?_
        rintro ⟨p55,c56⟩ -
        dsimp only [aq,nq,cq]
        refine e_p (zd rfl)<|zi<|zT<|ze ?_
        have hrw:(o2++([((((ye l i).1)+(fv*(((ye l ((i+1)%n)).1) - ((ye l i).1)))),(((ye l i).2)+(fv*(((ye l ((i+1)%n)).2) - ((ye l i).2)))))]))=yB n qa qb l (i+1):=by subst ho2;subst hfv;subst htv;subst hsv;show _=yB n qa qb l i++Pg.clA qa qb _ _;unfold Pg.clA;first|(rw [if_pos hcr,List.append_assoc];rfl)|(rw [if_pos hcr,←List.append_assoc];rfl)|(rw [if_neg hcr,List.append_nil];done)|(rw [if_neg hcr,List.append_nil];rfl)
        rw [hrw]
        refine za<|e_mv rfl<|e_p (zO (z:=(((i+1):Nat):Int)) rfl rfl (w64 om))<|e_p (zd rfl)<|zi<|zla ((i+1),p55,c56) (show (i+1)≤n from by show i+1≤n;omega) (by show n - (i+1)<n - i;omega) ((.e rfl (by first|(refine congrArg (fun z=>Value.slice _ z _) ?_;dsimp only;rw [← hrw];simp;done)|(refine congrArg (fun z=>Value.slice _ z _) ?_;dsimp only;rw [← hrw];done)|(refine congrArg (fun z=>Value.slice _ z _) ?_;rw [← hrw];done)|(rw [← hrw];done)) (.of rfl)):SubM _ _) (ho:=((.of [5,5,5] rfl):PickO _ _ _)) ((.of [6,7,8,9,10] rfl):SelR _ _ _)
       refine zca (X:=Wd×Wd×Nat) (k':=1) (L':=(lb 18 131071)) (fun (u15_1r4,u15_2r4,u16_1r4)=>([(15,yc (some ⟨u16_1r4,0,none⟩)),(97,.agg (cw [u15_1r4,u15_2r4]).toArray),(14,yc (some ⟨u16_1r3,0,none⟩)),(7,.slice p5 (o2.length) c5),(8,ya yb ((i:Nat):Int)),(5,yc (some ⟨b2,0,none⟩)),(4,yc (some ⟨b1,0,none⟩)),(0,.slice p n cap)],[boxA u16_1r4 43 (cw [wz,wz])],[boxA u16_1r3 43 (cw [u15_1r3,u15_2r3]),boxA u8_1r2 43 (cw [u4_1r2,u4_2r2]),boxA b11 69 (cw [w7,w8,w9,w10]),rowA 69 rR p5 c5 o2,boxA b2 69 (cw [wb0,wb1,wb2,wb3]),boxA b1 69 (cw [wa0,wa1,wa2,wa3])],[qF true u15_1r4 u15_2r4 (((ye l i).2)+(fv*(((ye l ((i+1)%n)).2) - ((ye l i).2)))),qF true u15_1r3 u15_2r3 (((ye l i).1)+(fv*(((ye l ((i+1)%n)).1) - ((ye l i).1)))),qF (decide ((sv - tv)≠0)) u4_1r2 u4_2r2 fv,qF true w7 w8 ((ye l ((i+1)%n)).1),qF true w9 w10 ((ye l ((i+1)%n)).2),slF rR p cap l,qF true wa0 wa1 (qa.1),qF true wa2 wa3 (qa.2),qF true wb0 wb1 (qb.1),qF true wb2 wb3 (qb.2)])) ?_ (fun hD1=> ?_)
       ·
        rintro ⟨u15_1r4,u15_2r4,u16_1r4⟩
        dsimp only [cw]
        refine zya 17 kr ?_
        ·
         refine zr kr rfl rfl rfl rfl rfl sz43 rfl (.t4 .nil) ?_
         exact zH (hD0 (u15_1r4,u15_2r4,u16_1r4)) kr (mR rfl) .rfl .rfl ((.of [0,1,2,3,4,5,6,7,8,9] rfl):SelR _ _ _)
       refine zca (X:=Wd×Wd) (k':=2) (L':=(lb 18 65535)) (fun (u15_1r4,u15_2r4)=>([(97,.agg (cw [u15_1r4,u15_2r4]).toArray),(14,yc (some ⟨u16_1r3,0,none⟩)),(7,.slice p5 (o2.length) c5),(8,ya yb ((i:Nat):Int)),(5,yc (some ⟨b2,0,none⟩)),(4,yc (some ⟨b1,0,none⟩)),(0,.slice p n cap)],[],[boxA u16_1r3 43 (cw [u15_1r3,u15_2r3]),boxA u8_1r2 43 (cw [u4_1r2,u4_2r2]),boxA b11 69 (cw [w7,w8,w9,w10]),rowA 69 rR p5 c5 o2,boxA b2 69 (cw [wb0,wb1,wb2,wb3]),boxA b1 69 (cw [wa0,wa1,wa2,wa3])],[qF true u15_1r4 u15_2r4 (((ye l i).2)+(fv*(((ye l ((i+1)%n)).2) - ((ye l i).2)))),qF true u15_1r3 u15_2r3 (((ye l i).1)+(fv*(((ye l ((i+1)%n)).1) - ((ye l i).1)))),qF (decide ((sv - tv)≠0)) u4_1r2 u4_2r2 fv,qF true w7 w8 ((ye l ((i+1)%n)).1),qF true w9 w10 ((ye l ((i+1)%n)).2),slF rR p cap l,qF true wa0 wa1 (qa.1),qF true wa2 wa3 (qa.2),qF true wb0 wb1 (qb.1),qF true wb2 wb3 (qb.2)])) ?_ (fun hD2=> ?_)
       ·
        rintro ⟨u15_1r4,u15_2r4⟩
        dsimp only [cw]
        refine zya 16 kr ?_
        ·
         refine zma rfl rfl rfl rfl (zn zr43 rfl) (fun u16_1r4 _=> ?_)
         exact zH (hD1 (u15_1r4,u15_2r4,u16_1r4)) kr (mR rfl) .rfl .rfl ((.of [0,1,2,3,4,5,6,7,8,9] rfl):SelR _ _ _)
       refine zca (X:=Wd×Wd×Nat) (k':=2) (L':=(lb 18 98303)) (fun (u14_1r4,u14_2r4,u16_1r4)=>([(15,yc (some ⟨u16_1r4,0,none⟩)),(96,.agg (cw [u14_1r4,u14_2r4]).toArray),(86,.agg (cw [w46,w47]).toArray),(14,yc (some ⟨u16_1r3,0,none⟩)),(7,.slice p5 (o2.length) c5),(8,ya yb ((i:Nat):Int)),(5,yc (some ⟨b2,0,none⟩)),(4,yc (some ⟨b1,0,none⟩)),(0,.slice p n cap)],[boxA u16_1r4 43 (cw [wz,wz])],[boxA u16_1r3 43 (cw [u15_1r3,u15_2r3]),boxA u8_1r2 43 (cw [u4_1r2,u4_2r2]),boxA b11 69 (cw [w7,w8,w9,w10]),rowA 69 rR p5 c5 o2,boxA b2 69 (cw [wb0,wb1,wb2,wb3]),boxA b1 69 (cw [wa0,wa1,wa2,wa3])],[qF true u14_1r4 u14_2r4 (fv*(((ye l ((i+1)%n)).2) - ((ye l i).2))),qF true w46 w47 ((ye l i).2),qF true u15_1r3 u15_2r3 (((ye l i).1)+(fv*(((ye l ((i+1)%n)).1) - ((ye l i).1)))),qF (decide ((sv - tv)≠0)) u4_1r2 u4_2r2 fv,qF true w7 w8 ((ye l ((i+1)%n)).1),qF true w9 w10 ((ye l ((i+1)%n)).2),slF rR p cap l,qF true wa0 wa1 (qa.1),qF true wa2 wa3 (qa.2),qF true wb0 wb1 (qb.1),qF true wb2 wb3 (qb.2)])) ?_ (fun hD3=> ?_)
       ·
        rintro ⟨u14_1r4,u14_2r4,u16_1r4⟩
        dsimp only [cw]
        refine zya 15 kr ?_
        ·
         refine zq rfl rfl rfl rfl (.c rfl (.c rfl .n)) ce70 (zEb (k1:=true) (u1:=w46) (v1:=w47) (q1:=(ye l i).2) (k2:=true) (u2:=u14_1r4) (v2:=u14_2r4) (q2:=fv*(((ye l ((i+1)%n)).2) - ((ye l i).2))) (hl:=cbo)) (.c (j:=1) rfl (.c (j:=0) rfl .n)) ?_
         rintro ⟨u15_1r4,u15_2r4⟩ -
         dsimp only [aq,nq,cq]
         exact zH (hD1 (u15_1r4,u15_2r4,u16_1r4)) kr (mR rfl) .rfl .rfl ((.of [0,3,4,5,6,7,8,9,10,11] rfl):SelR _ _ _)
       refine zca (X:=Wd×Wd) (k':=3) (L':=(lb 18 32767)) (fun (u14_1r4,u14_2r4)=>([(96,.agg (cw [u14_1r4,u14_2r4]).toArray),(86,.agg (cw [w46,w47]).toArray),(14,yc (some ⟨u16_1r3,0,none⟩)),(7,.slice p5 (o2.length) c5),(8,ya yb ((i:Nat):Int)),(5,yc (some ⟨b2,0,none⟩)),(4,yc (some ⟨b1,0,none⟩)),(0,.slice p n cap)],[],[boxA u16_1r3 43 (cw [u15_1r3,u15_2r3]),boxA u8_1r2 43 (cw [u4_1r2,u4_2r2]),boxA b11 69 (cw [w7,w8,w9,w10]),rowA 69 rR p5 c5 o2,boxA b2 69 (cw [wb0,wb1,wb2,wb3]),boxA b1 69 (cw [wa0,wa1,wa2,wa3])],[qF true u14_1r4 u14_2r4 (fv*(((ye l ((i+1)%n)).2) - ((ye l i).2))),qF true w46 w47 ((ye l i).2),qF true u15_1r3 u15_2r3 (((ye l i).1)+(fv*(((ye l ((i+1)%n)).1) - ((ye l i).1)))),qF (decide ((sv - tv)≠0)) u4_1r2 u4_2r2 fv,qF true w7 w8 ((ye l ((i+1)%n)).1),qF true w9 w10 ((ye l ((i+1)%n)).2),slF rR p cap l,qF true wa0 wa1 (qa.1),qF true wa2 wa3 (qa.2),qF true wb0 wb1 (qb.1),qF true wb2 wb3 (qb.2)])) ?_ (fun hD4=> ?_)
       ·
        rintro ⟨u14_1r4,u14_2r4⟩
        dsimp only [cw]
        refine zdb 15 16 kr ?_ ?_
        ·
         refine zq rfl rfl rfl rfl (.c rfl (.c rfl .n)) ce70 (zEb (k1:=true) (u1:=w46) (v1:=w47) (q1:=(ye l i).2) (k2:=true) (u2:=u14_1r4) (v2:=u14_2r4) (q2:=fv*(((ye l ((i+1)%n)).2) - ((ye l i).2))) (hl:=cbo)) (.c (j:=1) rfl (.c (j:=0) rfl .n)) ?_
         rintro ⟨u15_1r4,u15_2r4⟩ -
         dsimp only [aq,nq,cq]
         exact zH (hD2 (u15_1r4,u15_2r4)) kr (mR rfl) .rfl .rfl ((.of [0,3,4,5,6,7,8,9,10,11] rfl):SelR _ _ _)
        ·
         refine zma rfl rfl rfl rfl (zn zr43 rfl) (fun u16_1r4 _=> ?_)
         exact zH (hD3 (u14_1r4,u14_2r4,u16_1r4)) kr (mR rfl) .rfl .rfl ((.of [0,1,2,3,4,5,6,7,8,9,10] rfl):SelR _ _ _)
       refine zca (X:=Wd×Wd×Nat) (k':=3) (L':=(lb 18 81919)) (fun (u13_1r4,u13_2r4,u16_1r4)=>([(15,yc (some ⟨u16_1r4,0,none⟩)),(95,.agg (cw [u13_1r4,u13_2r4]).toArray),(87,.agg (cw [u4_1r2,u4_2r2]).toArray),(86,.agg (cw [w46,w47]).toArray),(14,yc (some ⟨u16_1r3,0,none⟩)),(7,.slice p5 (o2.length) c5),(8,ya yb ((i:Nat):Int)),(5,yc (some ⟨b2,0,none⟩)),(4,yc (some ⟨b1,0,none⟩)),(0,.slice p n cap)],[boxA u16_1r4 43 (cw [wz,wz])],[boxA u16_1r3 43 (cw [u15_1r3,u15_2r3]),boxA u8_1r2 43 (cw [u4_1r2,u4_2r2]),boxA b11 69 (cw [w7,w8,w9,w10]),rowA 69 rR p5 c5 o2,boxA b2 69 (cw [wb0,wb1,wb2,wb3]),boxA b1 69 (cw [wa0,wa1,wa2,wa3])],[qF true u13_1r4 u13_2r4 (((ye l ((i+1)%n)).2) - ((ye l i).2)),qF true w46 w47 ((ye l i).2),qF true u15_1r3 u15_2r3 (((ye l i).1)+(fv*(((ye l ((i+1)%n)).1) - ((ye l i).1)))),qF (decide ((sv - tv)≠0)) u4_1r2 u4_2r2 fv,qF true w7 w8 ((ye l ((i+1)%n)).1),qF true w9 w10 ((ye l ((i+1)%n)).2),slF rR p cap l,qF true wa0 wa1 (qa.1),qF true wa2 wa3 (qa.2),qF true wb0 wb1 (qb.1),qF true wb2 wb3 (qb.2)])) ?_ (fun hD5=> ?_)
       ·
        rintro ⟨u13_1r4,u13_2r4,u16_1r4⟩
        dsimp only [cw]
        refine zya 14 kr ?_
        ·
         refine zq rfl rfl rfl rfl (.c rfl (.c rfl .n)) ce25 (zSa (k1:=(decide ((sv - tv)≠0))) (u1:=u4_1r2) (v1:=u4_2r2) (q1:=fv) (k2:=true) (u2:=u13_1r4) (v2:=u13_2r4) (q2:=((ye l ((i+1)%n)).2) - ((ye l i).2)) (hl:=cbo)) (.c (j:=3) rfl (.c (j:=0) rfl .n)) ?_
         rintro ⟨u14_1r4,u14_2r4⟩ -
         dsimp only [aq,nq,cq]
         exact zH (hD3 (u14_1r4,u14_2r4,u16_1r4)) kr (mR rfl) .rfl .rfl ((.of [0,2,3,4,5,6,7,8,9,10,11] rfl):SelR _ _ _)
       refine zca (X:=Wd×Wd) (k':=4) (L':=(lb 18 16383)) (fun (u13_1r4,u13_2r4)=>([(95,.agg (cw [u13_1r4,u13_2r4]).toArray),(87,.agg (cw [u4_1r2,u4_2r2]).toArray),(86,.agg (cw [w46,w47]).toArray),(14,yc (some ⟨u16_1r3,0,none⟩)),(7,.slice p5 (o2.length) c5),(8,ya yb ((i:Nat):Int)),(5,yc (some ⟨b2,0,none⟩)),(4,yc (some ⟨b1,0,none⟩)),(0,.slice p n cap)],[],[boxA u16_1r3 43 (cw [u15_1r3,u15_2r3]),boxA u8_1r2 43 (cw [u4_1r2,u4_2r2]),boxA b11 69 (cw [w7,w8,w9,w10]),rowA 69 rR p5 c5 o2,boxA b2 69 (cw [wb0,wb1,wb2,wb3]),boxA b1 69 (cw [wa0,wa1,wa2,wa3])],[qF true u13_1r4 u13_2r4 (((ye l ((i+1)%n)).2) - ((ye l i).2)),qF true w46 w47 ((ye l i).2),qF true u15_1r3 u15_2r3 (((ye l i).1)+(fv*(((ye l ((i+1)%n)).1) - ((ye l i).1)))),qF (decide ((sv - tv)≠0)) u4_1r2 u4_2r2 fv,qF true w7 w8 ((ye l ((i+1)%n)).1),qF true w9 w10 ((ye l ((i+1)%n)).2),slF rR p cap l,qF true wa0 wa1 (qa.1),qF true wa2 wa3 (qa.2),qF true wb0 wb1 (qb.1),qF true wb2 wb3 (qb.2)])) ?_ (fun hD6=> ?_)
       ·
        rintro ⟨u13_1r4,u13_2r4⟩
        dsimp only [cw]
        refine zdb 14 16 kr ?_ ?_
        ·
         refine zq rfl rfl rfl rfl (.c rfl (.c rfl .n)) ce25 (zSa (k1:=(decide ((sv - tv)≠0))) (u1:=u4_1r2) (v1:=u4_2r2) (q1:=fv) (k2:=true) (u2:=u13_1r4) (v2:=u13_2r4) (q2:=((ye l ((i+1)%n)).2) - ((ye l i).2)) (hl:=cbo)) (.c (j:=3) rfl (.c (j:=0) rfl .n)) ?_
         rintro ⟨u14_1r4,u14_2r4⟩ -
         dsimp only [aq,nq,cq]
         exact zH (hD4 (u14_1r4,u14_2r4)) kr (mR rfl) .rfl .rfl ((.of [0,2,3,4,5,6,7,8,9,10,11] rfl):SelR _ _ _)
        ·
         refine zma rfl rfl rfl rfl (zn zr43 rfl) (fun u16_1r4 _=> ?_)
         exact zH (hD5 (u13_1r4,u13_2r4,u16_1r4)) kr (mR rfl) .rfl .rfl ((.of [0,1,2,3,4,5,6,7,8,9,10] rfl):SelR _ _ _)
       refine zca (X:=Nat) (k':=4) (L':=(lb 18 73727)) (fun u16_1r4=>([(15,yc (some ⟨u16_1r4,0,none⟩)),(94,.agg (cw [w52,w53]).toArray),(89,.agg (cw [w9,w10]).toArray),(87,.agg (cw [u4_1r2,u4_2r2]).toArray),(86,.agg (cw [w46,w47]).toArray),(14,yc (some ⟨u16_1r3,0,none⟩)),(7,.slice p5 (o2.length) c5),(8,ya yb ((i:Nat):Int)),(5,yc (some ⟨b2,0,none⟩)),(4,yc (some ⟨b1,0,none⟩)),(0,.slice p n cap)],[boxA u16_1r4 43 (cw [wz,wz])],[boxA u16_1r3 43 (cw [u15_1r3,u15_2r3]),boxA u8_1r2 43 (cw [u4_1r2,u4_2r2]),boxA b11 69 (cw [w7,w8,w9,w10]),rowA 69 rR p5 c5 o2,boxA b2 69 (cw [wb0,wb1,wb2,wb3]),boxA b1 69 (cw [wa0,wa1,wa2,wa3])],[qF true w52 w53 ((ye l i).2),qF true w46 w47 ((ye l i).2),qF true u15_1r3 u15_2r3 (((ye l i).1)+(fv*(((ye l ((i+1)%n)).1) - ((ye l i).1)))),qF (decide ((sv - tv)≠0)) u4_1r2 u4_2r2 fv,qF true w7 w8 ((ye l ((i+1)%n)).1),qF true w9 w10 ((ye l ((i+1)%n)).2),slF rR p cap l,qF true wa0 wa1 (qa.1),qF true wa2 wa3 (qa.2),qF true wb0 wb1 (qb.1),qF true wb2 wb3 (qb.2)])) ?_ (fun hD7=> ?_)
       ·
        rintro u16_1r4
        dsimp only [cw]
        refine zya 13 kr ?_
        ·
         refine zq rfl rfl rfl rfl (.c rfl (.c rfl .n)) ce71 (zCa (k1:=true) (u1:=w9) (v1:=w10) (q1:=(ye l ((i+1)%n)).2) (k2:=true) (u2:=w52) (v2:=w53) (q2:=(ye l i).2) (hl:=cbo)) (.c (j:=5) rfl (.c (j:=0) rfl .n)) ?_
         rintro ⟨u13_1r4,u13_2r4⟩ -
         dsimp only [aq,nq,cq]
         exact zH (hD5 (u13_1r4,u13_2r4,u16_1r4)) kr (mR rfl) .rfl .rfl ((.of [0,2,3,4,5,6,7,8,9,10,11] rfl):SelR _ _ _)
       refine zdb 13 16 kr ?_ ?_
       ·
        refine zq rfl rfl rfl rfl (.c rfl (.c rfl .n)) ce71 (zCa (k1:=true) (u1:=w9) (v1:=w10) (q1:=(ye l ((i+1)%n)).2) (k2:=true) (u2:=w52) (v2:=w53) (q2:=(ye l i).2) (hl:=cbo)) (.c (j:=7) rfl (.c (j:=1) rfl .n)) ?_
        rintro ⟨u13_1r4,u13_2r4⟩ -
        dsimp only [aq,nq,cq]
        exact zH (hD6 (u13_1r4,u13_2r4)) kr (mR rfl) .rfl .rfl ((.of [0,4,5,6,7,8,9,10,11,12,13] rfl):SelR _ _ _)
       ·
        refine zma rfl rfl rfl rfl (zn zr43 rfl) (fun u16_1r4 _=> ?_)
        exact zH (hD7 u16_1r4) kr (mR rfl) .rfl .rfl ((.of [1,3,4,5,6,7,8,9,10,11,12] rfl):SelR _ _ _)
      refine zca (X:=Wd×Wd×Nat) (k':=1) (L':=(lb 18 131071)) (fun (u15_1r3,u15_2r3,u16_1r3)=>([(14,yc (some ⟨u16_1r3,0,none⟩)),(81,.agg (cw [u15_1r3,u15_2r3]).toArray),(12,yc (some ⟨u8_1r2,0,none⟩)),(7,.slice p5 (o2.length) c5),(9,yc (some ⟨b11,0,none⟩)),(8,ya yb ((i:Nat):Int)),(5,yc (some ⟨b2,0,none⟩)),(4,yc (some ⟨b1,0,none⟩)),(0,.slice p n cap)],[boxA u16_1r3 43 (cw [wz,wz])],[boxA u8_1r2 43 (cw [u4_1r2,u4_2r2]),boxA b11 69 (cw [w7,w8,w9,w10]),rowA 69 rR p5 c5 o2,boxA b2 69 (cw [wb0,wb1,wb2,wb3]),boxA b1 69 (cw [wa0,wa1,wa2,wa3])],[qF true u15_1r3 u15_2r3 (((ye l i).1)+(fv*(((ye l ((i+1)%n)).1) - ((ye l i).1)))),qF (decide ((sv - tv)≠0)) u4_1r2 u4_2r2 fv,qF true w7 w8 ((ye l ((i+1)%n)).1),qF true w9 w10 ((ye l ((i+1)%n)).2),slF rR p cap l,qF true wa0 wa1 (qa.1),qF true wa2 wa3 (qa.2),qF true wb0 wb1 (qb.1),qF true wb2 wb3 (qb.2)])) ?_ (fun hD1=> ?_)
      ·
       rintro ⟨u15_1r3,u15_2r3,u16_1r3⟩
       dsimp only [cw]
       refine zya 17 kr ?_
       ·
        refine zr kr rfl rfl rfl rfl rfl sz43 rfl (.t4 .nil) ?_
        exact zH (hD0 (u15_1r3,u15_2r3,u16_1r3)) kr (mR rfl) .rfl .rfl ((.of [0,1,2,3,4,5,6,7,8] rfl):SelR _ _ _)
      refine zca (X:=Wd×Wd) (k':=2) (L':=(lb 18 65535)) (fun (u15_1r3,u15_2r3)=>([(81,.agg (cw [u15_1r3,u15_2r3]).toArray),(12,yc (some ⟨u8_1r2,0,none⟩)),(7,.slice p5 (o2.length) c5),(9,yc (some ⟨b11,0,none⟩)),(8,ya yb ((i:Nat):Int)),(5,yc (some ⟨b2,0,none⟩)),(4,yc (some ⟨b1,0,none⟩)),(0,.slice p n cap)],[],[boxA u8_1r2 43 (cw [u4_1r2,u4_2r2]),boxA b11 69 (cw [w7,w8,w9,w10]),rowA 69 rR p5 c5 o2,boxA b2 69 (cw [wb0,wb1,wb2,wb3]),boxA b1 69 (cw [wa0,wa1,wa2,wa3])],[qF true u15_1r3 u15_2r3 (((ye l i).1)+(fv*(((ye l ((i+1)%n)).1) - ((ye l i).1)))),qF (decide ((sv - tv)≠0)) u4_1r2 u4_2r2 fv,qF true w7 w8 ((ye l ((i+1)%n)).1),qF true w9 w10 ((ye l ((i+1)%n)).2),slF rR p cap l,qF true wa0 wa1 (qa.1),qF true wa2 wa3 (qa.2),qF true wb0 wb1 (qb.1),qF true wb2 wb3 (qb.2)])) ?_ (fun hD2=> ?_)
      ·
       rintro ⟨u15_1r3,u15_2r3⟩
       dsimp only [cw]
       refine zya 16 kr ?_
       ·
        refine zma rfl rfl rfl rfl (zn zr43 rfl) (fun u16_1r3 _=> ?_)
        exact zH (hD1 (u15_1r3,u15_2r3,u16_1r3)) kr (mR rfl) .rfl .rfl ((.of [0,1,2,3,4,5,6,7,8] rfl):SelR _ _ _)
      refine zca (X:=Wd×Wd×Nat) (k':=2) (L':=(lb 18 98303)) (fun (u14_1r3,u14_2r3,u16_1r3)=>([(14,yc (some ⟨u16_1r3,0,none⟩)),(80,.agg (cw [u14_1r3,u14_2r3]).toArray),(70,.agg (cw [w32,w33]).toArray),(12,yc (some ⟨u8_1r2,0,none⟩)),(7,.slice p5 (o2.length) c5),(9,yc (some ⟨b11,0,none⟩)),(8,ya yb ((i:Nat):Int)),(5,yc (some ⟨b2,0,none⟩)),(4,yc (some ⟨b1,0,none⟩)),(0,.slice p n cap)],[boxA u16_1r3 43 (cw [wz,wz])],[boxA u8_1r2 43 (cw [u4_1r2,u4_2r2]),boxA b11 69 (cw [w7,w8,w9,w10]),rowA 69 rR p5 c5 o2,boxA b2 69 (cw [wb0,wb1,wb2,wb3]),boxA b1 69 (cw [wa0,wa1,wa2,wa3])],[qF true u14_1r3 u14_2r3 (fv*(((ye l ((i+1)%n)).1) - ((ye l i).1))),qF true w32 w33 ((ye l i).1),qF (decide ((sv - tv)≠0)) u4_1r2 u4_2r2 fv,qF true w7 w8 ((ye l ((i+1)%n)).1),qF true w9 w10 ((ye l ((i+1)%n)).2),slF rR p cap l,qF true wa0 wa1 (qa.1),qF true wa2 wa3 (qa.2),qF true wb0 wb1 (qb.1),qF true wb2 wb3 (qb.2)])) ?_ (fun hD3=> ?_)
      ·
       rintro ⟨u14_1r3,u14_2r3,u16_1r3⟩
       dsimp only [cw]
       refine zya 15 kr ?_
       ·
        refine zq rfl rfl rfl rfl (.c rfl (.c rfl .n)) ce70 (zEb (k1:=true) (u1:=w32) (v1:=w33) (q1:=(ye l i).1) (k2:=true) (u2:=u14_1r3) (v2:=u14_2r3) (q2:=fv*(((ye l ((i+1)%n)).1) - ((ye l i).1))) (hl:=cbo)) (.c (j:=1) rfl (.c (j:=0) rfl .n)) ?_
        rintro ⟨u15_1r3,u15_2r3⟩ -
        dsimp only [aq,nq,cq]
        exact zH (hD1 (u15_1r3,u15_2r3,u16_1r3)) kr (mR rfl) .rfl .rfl ((.of [0,3,4,5,6,7,8,9,10] rfl):SelR _ _ _)
      refine zca (X:=Wd×Wd) (k':=3) (L':=(lb 18 32767)) (fun (u14_1r3,u14_2r3)=>([(80,.agg (cw [u14_1r3,u14_2r3]).toArray),(70,.agg (cw [w32,w33]).toArray),(12,yc (some ⟨u8_1r2,0,none⟩)),(7,.slice p5 (o2.length) c5),(9,yc (some ⟨b11,0,none⟩)),(8,ya yb ((i:Nat):Int)),(5,yc (some ⟨b2,0,none⟩)),(4,yc (some ⟨b1,0,none⟩)),(0,.slice p n cap)],[],[boxA u8_1r2 43 (cw [u4_1r2,u4_2r2]),boxA b11 69 (cw [w7,w8,w9,w10]),rowA 69 rR p5 c5 o2,boxA b2 69 (cw [wb0,wb1,wb2,wb3]),boxA b1 69 (cw [wa0,wa1,wa2,wa3])],[qF true u14_1r3 u14_2r3 (fv*(((ye l ((i+1)%n)).1) - ((ye l i).1))),qF true w32 w33 ((ye l i).1),qF (decide ((sv - tv)≠0)) u4_1r2 u4_2r2 fv,qF true w7 w8 ((ye l ((i+1)%n)).1),qF true w9 w10 ((ye l ((i+1)%n)).2),slF rR p cap l,qF true wa0 wa1 (qa.1),qF true wa2 wa3 (qa.2),qF true wb0 wb1 (qb.1),qF true wb2 wb3 (qb.2)])) ?_ (fun hD4=> ?_)
      ·
       rintro ⟨u14_1r3,u14_2r3⟩
       dsimp only [cw]
       refine zdb 15 16 kr ?_ ?_
       ·
        refine zq rfl rfl rfl rfl (.c rfl (.c rfl .n)) ce70 (zEb (k1:=true) (u1:=w32) (v1:=w33) (q1:=(ye l i).1) (k2:=true) (u2:=u14_1r3) (v2:=u14_2r3) (q2:=fv*(((ye l ((i+1)%n)).1) - ((ye l i).1))) (hl:=cbo)) (.c (j:=1) rfl (.c (j:=0) rfl .n)) ?_
        rintro ⟨u15_1r3,u15_2r3⟩ -
        dsimp only [aq,nq,cq]
        exact zH (hD2 (u15_1r3,u15_2r3)) kr (mR rfl) .rfl .rfl ((.of [0,3,4,5,6,7,8,9,10] rfl):SelR _ _ _)
       ·
        refine zma rfl rfl rfl rfl (zn zr43 rfl) (fun u16_1r3 _=> ?_)
        exact zH (hD3 (u14_1r3,u14_2r3,u16_1r3)) kr (mR rfl) .rfl .rfl ((.of [0,1,2,3,4,5,6,7,8,9] rfl):SelR _ _ _)
      refine zca (X:=Wd×Wd×Nat) (k':=3) (L':=(lb 18 81919)) (fun (u13_1r3,u13_2r3,u16_1r3)=>([(14,yc (some ⟨u16_1r3,0,none⟩)),(79,.agg (cw [u13_1r3,u13_2r3]).toArray),(71,.agg (cw [u4_1r2,u4_2r2]).toArray),(70,.agg (cw [w32,w33]).toArray),(12,yc (some ⟨u8_1r2,0,none⟩)),(7,.slice p5 (o2.length) c5),(9,yc (some ⟨b11,0,none⟩)),(8,ya yb ((i:Nat):Int)),(5,yc (some ⟨b2,0,none⟩)),(4,yc (some ⟨b1,0,none⟩)),(0,.slice p n cap)],[boxA u16_1r3 43 (cw [wz,wz])],[boxA u8_1r2 43 (cw [u4_1r2,u4_2r2]),boxA b11 69 (cw [w7,w8,w9,w10]),rowA 69 rR p5 c5 o2,boxA b2 69 (cw [wb0,wb1,wb2,wb3]),boxA b1 69 (cw [wa0,wa1,wa2,wa3])],[qF true u13_1r3 u13_2r3 (((ye l ((i+1)%n)).1) - ((ye l i).1)),qF true w32 w33 ((ye l i).1),qF (decide ((sv - tv)≠0)) u4_1r2 u4_2r2 fv,qF true w7 w8 ((ye l ((i+1)%n)).1),qF true w9 w10 ((ye l ((i+1)%n)).2),slF rR p cap l,qF true wa0 wa1 (qa.1),qF true wa2 wa3 (qa.2),qF true wb0 wb1 (qb.1),qF true wb2 wb3 (qb.2)])) ?_ (fun hD5=> ?_)
      ·
       rintro ⟨u13_1r3,u13_2r3,u16_1r3⟩
       dsimp only [cw]
       refine zya 14 kr ?_
       ·
        refine zq rfl rfl rfl rfl (.c rfl (.c rfl .n)) ce25 (zSa (k1:=(decide ((sv - tv)≠0))) (u1:=u4_1r2) (v1:=u4_2r2) (q1:=fv) (k2:=true) (u2:=u13_1r3) (v2:=u13_2r3) (q2:=((ye l ((i+1)%n)).1) - ((ye l i).1)) (hl:=cbo)) (.c (j:=2) rfl (.c (j:=0) rfl .n)) ?_
        rintro ⟨u14_1r3,u14_2r3⟩ -
        dsimp only [aq,nq,cq]
        exact zH (hD3 (u14_1r3,u14_2r3,u16_1r3)) kr (mR rfl) .rfl .rfl ((.of [0,2,3,4,5,6,7,8,9,10] rfl):SelR _ _ _)
      refine zca (X:=Wd×Wd) (k':=4) (L':=(lb 18 16383)) (fun (u13_1r3,u13_2r3)=>([(79,.agg (cw [u13_1r3,u13_2r3]).toArray),(71,.agg (cw [u4_1r2,u4_2r2]).toArray),(70,.agg (cw [w32,w33]).toArray),(12,yc (some ⟨u8_1r2,0,none⟩)),(7,.slice p5 (o2.length) c5),(9,yc (some ⟨b11,0,none⟩)),(8,ya yb ((i:Nat):Int)),(5,yc (some ⟨b2,0,none⟩)),(4,yc (some ⟨b1,0,none⟩)),(0,.slice p n cap)],[],[boxA u8_1r2 43 (cw [u4_1r2,u4_2r2]),boxA b11 69 (cw [w7,w8,w9,w10]),rowA 69 rR p5 c5 o2,boxA b2 69 (cw [wb0,wb1,wb2,wb3]),boxA b1 69 (cw [wa0,wa1,wa2,wa3])],[qF true u13_1r3 u13_2r3 (((ye l ((i+1)%n)).1) - ((ye l i).1)),qF true w32 w33 ((ye l i).1),qF (decide ((sv - tv)≠0)) u4_1r2 u4_2r2 fv,qF true w7 w8 ((ye l ((i+1)%n)).1),qF true w9 w10 ((ye l ((i+1)%n)).2),slF rR p cap l,qF true wa0 wa1 (qa.1),qF true wa2 wa3 (qa.2),qF true wb0 wb1 (qb.1),qF true wb2 wb3 (qb.2)])) ?_ (fun hD6=> ?_)
      ·
       rintro ⟨u13_1r3,u13_2r3⟩
       dsimp only [cw]
       refine zdb 14 16 kr ?_ ?_
       ·
        refine zq rfl rfl rfl rfl (.c rfl (.c rfl .n)) ce25 (zSa (k1:=(decide ((sv - tv)≠0))) (u1:=u4_1r2) (v1:=u4_2r2) (q1:=fv) (k2:=true) (u2:=u13_1r3) (v2:=u13_2r3) (q2:=((ye l ((i+1)%n)).1) - ((ye l i).1)) (hl:=cbo)) (.c (j:=2) rfl (.c (j:=0) rfl .n)) ?_
        rintro ⟨u14_1r3,u14_2r3⟩ -
        dsimp only [aq,nq,cq]
        exact zH (hD4 (u14_1r3,u14_2r3)) kr (mR rfl) .rfl .rfl ((.of [0,2,3,4,5,6,7,8,9,10] rfl):SelR _ _ _)
       ·
        refine zma rfl rfl rfl rfl (zn zr43 rfl) (fun u16_1r3 _=> ?_)
        exact zH (hD5 (u13_1r3,u13_2r3,u16_1r3)) kr (mR rfl) .rfl .rfl ((.of [0,1,2,3,4,5,6,7,8,9] rfl):SelR _ _ _)
      refine zca (X:=Nat) (k':=4) (L':=(lb 18 73727)) (fun u16_1r3=>([(14,yc (some ⟨u16_1r3,0,none⟩)),(78,.agg (cw [w38,w39]).toArray),(73,.agg (cw [w7,w8]).toArray),(71,.agg (cw [u4_1r2,u4_2r2]).toArray),(70,.agg (cw [w32,w33]).toArray),(12,yc (some ⟨u8_1r2,0,none⟩)),(7,.slice p5 (o2.length) c5),(9,yc (some ⟨b11,0,none⟩)),(8,ya yb ((i:Nat):Int)),(5,yc (some ⟨b2,0,none⟩)),(4,yc (some ⟨b1,0,none⟩)),(0,.slice p n cap)],[boxA u16_1r3 43 (cw [wz,wz])],[boxA u8_1r2 43 (cw [u4_1r2,u4_2r2]),boxA b11 69 (cw [w7,w8,w9,w10]),rowA 69 rR p5 c5 o2,boxA b2 69 (cw [wb0,wb1,wb2,wb3]),boxA b1 69 (cw [wa0,wa1,wa2,wa3])],[qF true w38 w39 ((ye l i).1),qF true w32 w33 ((ye l i).1),qF (decide ((sv - tv)≠0)) u4_1r2 u4_2r2 fv,qF true w7 w8 ((ye l ((i+1)%n)).1),qF true w9 w10 ((ye l ((i+1)%n)).2),slF rR p cap l,qF true wa0 wa1 (qa.1),qF true wa2 wa3 (qa.2),qF true wb0 wb1 (qb.1),qF true wb2 wb3 (qb.2)])) ?_ (fun hD7=> ?_)
      ·
       rintro u16_1r3
       dsimp only [cw]
       refine zya 13 kr ?_
       ·
        refine zq rfl rfl rfl rfl (.c rfl (.c rfl .n)) ce71 (zCa (k1:=true) (u1:=w7) (v1:=w8) (q1:=(ye l ((i+1)%n)).1) (k2:=true) (u2:=w38) (v2:=w39) (q2:=(ye l i).1) (hl:=cbo)) (.c (j:=3) rfl (.c (j:=0) rfl .n)) ?_
        rintro ⟨u13_1r3,u13_2r3⟩ -
        dsimp only [aq,nq,cq]
        exact zH (hD5 (u13_1r3,u13_2r3,u16_1r3)) kr (mR rfl) .rfl .rfl ((.of [0,2,3,4,5,6,7,8,9,10] rfl):SelR _ _ _)
      refine zdb 13 16 kr ?_ ?_
      ·
       refine zq rfl rfl rfl rfl (.c rfl (.c rfl .n)) ce71 (zCa (k1:=true) (u1:=w7) (v1:=w8) (q1:=(ye l ((i+1)%n)).1) (k2:=true) (u2:=w38) (v2:=w39) (q2:=(ye l i).1) (hl:=cbo)) (.c (j:=7) rfl (.c (j:=0) rfl .n)) ?_
       rintro ⟨u13_1r3,u13_2r3⟩ -
       dsimp only [aq,nq,cq]
       exact zH (hD6 (u13_1r3,u13_2r3)) kr (mR rfl) .rfl .rfl ((.of [0,3,5,8,9,10,11,12,13,14] rfl):SelR _ _ _)
      ·
       refine zma rfl rfl rfl rfl (zn zr43 rfl) (fun u16_1r3 _=> ?_)
       exact zH (hD7 u16_1r3) kr (mR rfl) .rfl .rfl ((.of [0,2,4,7,8,9,10,11,12,13] rfl):SelR _ _ _)
     refine zca (X:=Wd×Wd×Nat) (k':=2) (L':=(lb 11 511)) (fun (u4_1r2,u4_2r2,u8_1r2)=>([(12,yc (some ⟨u8_1r2,0,none⟩)),(65,ya yb (if (sv - tv)=0 then 14 else 0)),(64,.agg (cw [u4_1r2,u4_2r2]).toArray),(7,.slice p5 (o2.length) c5),(9,yc (some ⟨b11,0,none⟩)),(8,ya yb ((i:Nat):Int)),(5,yc (some ⟨b2,0,none⟩)),(4,yc (some ⟨b1,0,none⟩)),(0,.slice p n cap)],[boxA u8_1r2 43 (cw [wz,wz])],[boxA b20 43 (cw [w318,w419]),boxA u7_1 43 (cw [u6_1,u6_2]),boxA b11 69 (cw [w7,w8,w9,w10]),rowA 69 rR p5 c5 o2,boxA b2 69 (cw [wb0,wb1,wb2,wb3]),boxA b1 69 (cw [wa0,wa1,wa2,wa3])],[qF (decide ((sv - tv)≠0)) u4_1r2 u4_2r2 (sv / (sv - tv)),qF true w318 w419 tv,qF true u6_1 u6_2 sv,qF true w7 w8 ((ye l ((i+1)%n)).1),qF true w9 w10 ((ye l ((i+1)%n)).2),slF rR p cap l,qF true wa0 wa1 (qa.1),qF true wa2 wa3 (qa.2),qF true wb0 wb1 (qb.1),qF true wb2 wb3 (qb.2)])) ?_ (fun hD1=> ?_)
     ·
      rintro ⟨u4_1r2,u4_2r2,u8_1r2⟩
      dsimp only [cw]
      refine zya 9 kr ?_
      ·
       refine zr kr rfl rfl rfl rfl rfl sz43 rfl (.t4 .nil)<|e_pv 10 rfl rfl (zd rfl) ?_
       exact zH (hD0 (u4_1r2,u4_2r2,u8_1r2)) kr (mR rfl) .rfl .rfl ((.of [0,1,2,3,4,5,6,7,8,9] rfl):SelR _ _ _)
     refine zca (X:=Wd×Wd) (k':=3) (L':=(lb 11 255)) (fun (u4_1r2,u4_2r2)=>([(65,ya yb (if (sv - tv)=0 then 14 else 0)),(64,.agg (cw [u4_1r2,u4_2r2]).toArray),(7,.slice p5 (o2.length) c5),(9,yc (some ⟨b11,0,none⟩)),(8,ya yb ((i:Nat):Int)),(5,yc (some ⟨b2,0,none⟩)),(4,yc (some ⟨b1,0,none⟩)),(0,.slice p n cap)],[],[boxA b20 43 (cw [w318,w419]),boxA u7_1 43 (cw [u6_1,u6_2]),boxA b11 69 (cw [w7,w8,w9,w10]),rowA 69 rR p5 c5 o2,boxA b2 69 (cw [wb0,wb1,wb2,wb3]),boxA b1 69 (cw [wa0,wa1,wa2,wa3])],[qF (decide ((sv - tv)≠0)) u4_1r2 u4_2r2 (sv / (sv - tv)),qF true w318 w419 tv,qF true u6_1 u6_2 sv,qF true w7 w8 ((ye l ((i+1)%n)).1),qF true w9 w10 ((ye l ((i+1)%n)).2),slF rR p cap l,qF true wa0 wa1 (qa.1),qF true wa2 wa3 (qa.2),qF true wb0 wb1 (qb.1),qF true wb2 wb3 (qb.2)])) ?_ (fun hD2=> ?_)
     ·
      rintro ⟨u4_1r2,u4_2r2⟩
      dsimp only [cw]
      refine zya 8 kr ?_
      ·
       refine zma rfl rfl rfl rfl (zn zr43 rfl) (fun u8_1r2 _=> ?_)
       exact zH (hD1 (u4_1r2,u4_2r2,u8_1r2)) kr (mR rfl) .rfl .rfl ((.of [0,1,2,3,4,5,6,7,8,9] rfl):SelR _ _ _)
     refine zca (X:=Wd×Wd×Nat) (k':=6) (L':=(lb 11 271)) (fun (u3_1r2,u3_2r2,u8_1r2)=>([(12,yc (some ⟨u8_1r2,0,none⟩)),(62,.agg (cw [u3_1r2,u3_2r2]).toArray),(59,.agg (cw [u6_1,u6_2]).toArray),(7,.slice p5 (o2.length) c5),(9,yc (some ⟨b11,0,none⟩)),(8,ya yb ((i:Nat):Int)),(5,yc (some ⟨b2,0,none⟩)),(4,yc (some ⟨b1,0,none⟩)),(0,.slice p n cap)],[boxA u8_1r2 43 (cw [wz,wz])],[boxA b20 43 (cw [w318,w419]),boxA u7_1 43 (cw [u6_1,u6_2]),boxA b11 69 (cw [w7,w8,w9,w10]),rowA 69 rR p5 c5 o2,boxA b2 69 (cw [wb0,wb1,wb2,wb3]),boxA b1 69 (cw [wa0,wa1,wa2,wa3])],[qF true u3_1r2 u3_2r2 (sv - tv),qF true w318 w419 tv,qF true u6_1 u6_2 sv,qF true w7 w8 ((ye l ((i+1)%n)).1),qF true w9 w10 ((ye l ((i+1)%n)).2),slF rR p cap l,qF true wa0 wa1 (qa.1),qF true wa2 wa3 (qa.2),qF true wb0 wb1 (qb.1),qF true wb2 wb3 (qb.2)])) ?_ (fun hD3=> ?_)
     ·
      rintro ⟨u3_1r2,u3_2r2,u8_1r2⟩
      dsimp only [cw]
      refine zya 4 kr ?_
      ·
       refine zq rfl rfl rfl rfl (.c rfl (.c rfl .n)) ce104 (zJc (k1:=true) (u1:=u6_1) (v1:=u6_2) (q1:=sv) (k2:=true) (u2:=u3_1r2) (v2:=u3_2r2) (q2:=sv - tv) (hl:=cbo)) (.c (j:=2) rfl (.c (j:=0) rfl .n)) ?_
       rintro ⟨u4_1r2,u4_2r2⟩ -
       dsimp only [aq,nq,cq]
       refine e_dm 5 rfl rfl rfl<|e_pv 6 rfl rfl (zA rfl rfl)<|e_pv 7 rfl rfl (zA rfl rfl) ?_
       exact zH (hD1 (u4_1r2,u4_2r2,u8_1r2)) kr (mR rfl) .rfl .rfl ((.of [0,2,3,4,5,6,7,8,9,10] rfl):SelR _ _ _)
     refine zca (X:=Wd×Wd) (k':=7) (L':=(lb 11 15)) (fun (u3_1r2,u3_2r2)=>([(62,.agg (cw [u3_1r2,u3_2r2]).toArray),(59,.agg (cw [u6_1,u6_2]).toArray),(7,.slice p5 (o2.length) c5),(9,yc (some ⟨b11,0,none⟩)),(8,ya yb ((i:Nat):Int)),(5,yc (some ⟨b2,0,none⟩)),(4,yc (some ⟨b1,0,none⟩)),(0,.slice p n cap)],[],[boxA b20 43 (cw [w318,w419]),boxA u7_1 43 (cw [u6_1,u6_2]),boxA b11 69 (cw [w7,w8,w9,w10]),rowA 69 rR p5 c5 o2,boxA b2 69 (cw [wb0,wb1,wb2,wb3]),boxA b1 69 (cw [wa0,wa1,wa2,wa3])],[qF true u3_1r2 u3_2r2 (sv - tv),qF true w318 w419 tv,qF true u6_1 u6_2 sv,qF true w7 w8 ((ye l ((i+1)%n)).1),qF true w9 w10 ((ye l ((i+1)%n)).2),slF rR p cap l,qF true wa0 wa1 (qa.1),qF true wa2 wa3 (qa.2),qF true wb0 wb1 (qb.1),qF true wb2 wb3 (qb.2)])) ?_ (fun hD4=> ?_)
     ·
      rintro ⟨u3_1r2,u3_2r2⟩
      dsimp only [cw]
      refine zdb 4 8 kr ?_ ?_
      ·
       refine zq rfl rfl rfl rfl (.c rfl (.c rfl .n)) ce104 (zJc (k1:=true) (u1:=u6_1) (v1:=u6_2) (q1:=sv) (k2:=true) (u2:=u3_1r2) (v2:=u3_2r2) (q2:=sv - tv) (hl:=cbo)) (.c (j:=2) rfl (.c (j:=0) rfl .n)) ?_
       rintro ⟨u4_1r2,u4_2r2⟩ -
       dsimp only [aq,nq,cq]
       refine e_dm 5 rfl rfl rfl<|e_pv 6 rfl rfl (zA rfl rfl)<|e_pv 7 rfl rfl (zA rfl rfl) ?_
       exact zH (hD2 (u4_1r2,u4_2r2)) kr (mR rfl) .rfl .rfl ((.of [0,2,3,4,5,6,7,8,9,10] rfl):SelR _ _ _)
      ·
       refine zma rfl rfl rfl rfl (zn zr43 rfl) (fun u8_1r2 _=> ?_)
       exact zH (hD3 (u3_1r2,u3_2r2,u8_1r2)) kr (mR rfl) .rfl .rfl ((.of [0,1,2,3,4,5,6,7,8,9] rfl):SelR _ _ _)
     refine zca (X:=Nat) (k':=7) (L':=(lb 11 263)) (fun u8_1r2=>([(12,yc (some ⟨u8_1r2,0,none⟩)),(61,.agg (cw [w318,w419]).toArray),(60,.agg (cw [u6_1,u6_2]).toArray),(59,.agg (cw [u6_1,u6_2]).toArray),(7,.slice p5 (o2.length) c5),(9,yc (some ⟨b11,0,none⟩)),(8,ya yb ((i:Nat):Int)),(5,yc (some ⟨b2,0,none⟩)),(4,yc (some ⟨b1,0,none⟩)),(0,.slice p n cap)],[boxA u8_1r2 43 (cw [wz,wz])],[boxA b20 43 (cw [w318,w419]),boxA u7_1 43 (cw [u6_1,u6_2]),boxA b11 69 (cw [w7,w8,w9,w10]),rowA 69 rR p5 c5 o2,boxA b2 69 (cw [wb0,wb1,wb2,wb3]),boxA b1 69 (cw [wa0,wa1,wa2,wa3])],[qF true w318 w419 tv,qF true u6_1 u6_2 sv,qF true w7 w8 ((ye l ((i+1)%n)).1),qF true w9 w10 ((ye l ((i+1)%n)).2),slF rR p cap l,qF true wa0 wa1 (qa.1),qF true wa2 wa3 (qa.2),qF true wb0 wb1 (qb.1),qF true wb2 wb3 (qb.2)])) ?_ (fun hD5=> ?_)
     ·
      rintro u8_1r2
      dsimp only [cw]
      refine zya 3 kr ?_
      ·
       refine zq rfl rfl rfl rfl (.c rfl (.c rfl .n)) ce71 (zCa (k1:=true) (u1:=u6_1) (v1:=u6_2) (q1:=sv) (k2:=true) (u2:=w318) (v2:=w419) (q2:=tv) (hl:=cbo)) (.c (j:=1) rfl (.c (j:=0) rfl .n)) ?_
       rintro ⟨u3_1r2,u3_2r2⟩ -
       dsimp only [aq,nq,cq]
       exact zH (hD3 (u3_1r2,u3_2r2,u8_1r2)) kr (mR rfl) .rfl .rfl ((.of [0,1,2,3,4,5,6,7,8,9] rfl):SelR _ _ _)
     refine zdb 3 8 kr ?_ ?_
     ·
      refine zq rfl rfl rfl rfl (.c rfl (.c rfl .n)) ce71 (zCa (k1:=true) (u1:=u6_1) (v1:=u6_2) (q1:=sv) (k2:=true) (u2:=w318) (v2:=w419) (q2:=tv) (hl:=cbo)) (.c (j:=1) rfl (.c (j:=0) rfl .n)) ?_
      rintro ⟨u3_1r2,u3_2r2⟩ -
      dsimp only [aq,nq,cq]
      exact zH (hD4 (u3_1r2,u3_2r2)) kr (mR rfl) .rfl .rfl ((.of [0,1,2,3,4,5,6,7,8,9] rfl):SelR _ _ _)
     ·
      refine zma rfl rfl rfl rfl (zn zr43 rfl) (fun u8_1r2 _=> ?_)
      exact zH (hD5 u8_1r2) kr (mR rfl) .rfl .rfl ((.of [0,1,2,3,4,5,6,7,8] rfl):SelR _ _ _)
    ·
     refine zC<|zT<|ze ?_
     have hrw:o2=yB n qa qb l (i+1):=by subst ho2;subst htv;subst hsv;show _=yB n qa qb l i++Pg.clA qa qb _ _;unfold Pg.clA;first|(rw [if_pos hcr,List.append_assoc];rfl)|(rw [if_pos hcr,←List.append_assoc];rfl)|(rw [if_neg hcr,List.append_nil];done)|(rw [if_neg hcr,List.append_nil];rfl)
     rw [hrw]
     refine za<|e_mv rfl<|e_p (zO (z:=(((i+1):Nat):Int)) rfl rfl (w64 om))<|e_p (zd rfl)<|zi<|zla ((i+1),p5,c5) (show (i+1)≤n from by show i+1≤n;omega) (by show n - (i+1)<n - i;omega) ((.e rfl (by first|(refine congrArg (fun z=>Value.slice _ z _) ?_;dsimp only;rw [← hrw];simp;done)|(refine congrArg (fun z=>Value.slice _ z _) ?_;dsimp only;rw [← hrw];done)|(refine congrArg (fun z=>Value.slice _ z _) ?_;rw [← hrw];done)|(rw [← hrw];done)) (.of rfl)):SubM _ _) (ho:=((.of [3,3,3] rfl):PickO _ _ _)) ((.of [4,5,6,7,8] rfl):SelR _ _ _)
  refine zca (X:=Wd×Wd×Nat) (k':=1) (L':=(lb 9 255)) (fun (u6_1,u6_2,u7_1)=>([(10,yc (some ⟨u7_1,0,none⟩)),(37,.agg (cw [u6_1,u6_2]).toArray),(9,yc (some ⟨b11,0,none⟩)),(7,.slice p7 ((yB n qa qb l i).length) c7),(8,ya yb ((i:Nat):Int)),(5,yc (some ⟨b2,0,none⟩)),(4,yc (some ⟨b1,0,none⟩)),(0,.slice p n cap)],[boxA u7_1 43 (cw [wz,wz])],[boxA b11 69 (cw [w7,w8,w9,w10]),rowA 69 rR p7 c7 (yB n qa qb l i),boxA b2 69 (cw [wb0,wb1,wb2,wb3]),boxA b1 69 (cw [wa0,wa1,wa2,wa3])],[qF true u6_1 u6_2 (Pg.sdq qa qb (ye l i)),qF true w7 w8 ((ye l ((i+1)%n)).1),qF true w9 w10 ((ye l ((i+1)%n)).2),slF rR p cap l,qF true wa0 wa1 (qa.1),qF true wa2 wa3 (qa.2),qF true wb0 wb1 (qb.1),qF true wb2 wb3 (qb.2)])) ?_ (fun hD1=> ?_)
  ·
   rintro ⟨u6_1,u6_2,u7_1⟩
   dsimp only [cw]
   refine zya 8 kr ?_
   ·
    refine zr kr rfl rfl rfl rfl rfl sz43 rfl (.t4 .nil) ?_
    exact zH (hD0 (u6_1,u6_2,u7_1)) kr (mR rfl) .rfl .rfl ((.of [0,1,2,3,4,5,6,7] rfl):SelR _ _ _)
  refine zca (X:=Wd×Wd) (k':=2) (L':=(lb 9 127)) (fun (u6_1,u6_2)=>([(37,.agg (cw [u6_1,u6_2]).toArray),(9,yc (some ⟨b11,0,none⟩)),(7,.slice p7 ((yB n qa qb l i).length) c7),(8,ya yb ((i:Nat):Int)),(5,yc (some ⟨b2,0,none⟩)),(4,yc (some ⟨b1,0,none⟩)),(0,.slice p n cap)],[],[boxA b11 69 (cw [w7,w8,w9,w10]),rowA 69 rR p7 c7 (yB n qa qb l i),boxA b2 69 (cw [wb0,wb1,wb2,wb3]),boxA b1 69 (cw [wa0,wa1,wa2,wa3])],[qF true u6_1 u6_2 (Pg.sdq qa qb (ye l i)),qF true w7 w8 ((ye l ((i+1)%n)).1),qF true w9 w10 ((ye l ((i+1)%n)).2),slF rR p cap l,qF true wa0 wa1 (qa.1),qF true wa2 wa3 (qa.2),qF true wb0 wb1 (qb.1),qF true wb2 wb3 (qb.2)])) ?_ (fun hD2=> ?_)
  ·
   rintro ⟨u6_1,u6_2⟩
   dsimp only [cw]
   refine zya 7 kr ?_
   ·
    refine zma rfl rfl rfl rfl (zn zr43 rfl) (fun u7_1 _=> ?_)
    exact zH (hD1 (u6_1,u6_2,u7_1)) kr (mR rfl) .rfl .rfl ((.of [0,1,2,3,4,5,6,7] rfl):SelR _ _ _)
  refine zca (X:=Nat) (k':=2) (L':=(lb 9 191)) (fun u7_1=>([(10,yc (some ⟨u7_1,0,none⟩)),(36,.agg (cw [w14,w15,w16,w17]).toArray),(32,.agg (cw [wb0,wb1,wb2,wb3]).toArray),(31,.agg (cw [wa0,wa1,wa2,wa3]).toArray),(9,yc (some ⟨b11,0,none⟩)),(7,.slice p7 ((yB n qa qb l i).length) c7),(8,ya yb ((i:Nat):Int)),(5,yc (some ⟨b2,0,none⟩)),(4,yc (some ⟨b1,0,none⟩)),(0,.slice p n cap)],[boxA u7_1 43 (cw [wz,wz])],[boxA b11 69 (cw [w7,w8,w9,w10]),rowA 69 rR p7 c7 (yB n qa qb l i),boxA b2 69 (cw [wb0,wb1,wb2,wb3]),boxA b1 69 (cw [wa0,wa1,wa2,wa3])],[qF true w14 w15 ((ye l i).1),qF true w16 w17 ((ye l i).2),qF true w7 w8 ((ye l ((i+1)%n)).1),qF true w9 w10 ((ye l ((i+1)%n)).2),slF rR p cap l,qF true wa0 wa1 (qa.1),qF true wa2 wa3 (qa.2),qF true wb0 wb1 (qb.1),qF true wb2 wb3 (qb.2)])) ?_ (fun hD3=> ?_)
  ·
   rintro u7_1
   dsimp only [cw]
   refine zya 6 kr ?_
   ·
    refine zq rfl rfl rfl rfl (.c rfl (.c rfl (.c rfl .n))) ce103 (zBc (wa0:=wa0) (wa1:=wa1) (wa2:=wa2) (wa3:=wa3) (qa:=qa) (wb0:=wb0) (wb1:=wb1) (wb2:=wb2) (wb3:=wb3) (qb:=qb) (wd0:=w14) (wd1:=w15) (wd2:=w16) (wd3:=w17) (qd:=(ye l i)) (K:=K) (hpa:=ass) (hpb:=ass) (hpd:=cbo) (hK:=cbo)) (.c (j:=5) rfl (.c (j:=6) rfl (.c (j:=7) rfl (.c (j:=8) rfl (.c (j:=0) rfl (.c (j:=1) rfl .n)))))) ?_
    rintro ⟨u6_1,u6_2⟩ -
    dsimp only [aq,nq,cq]
    exact zH (hD1 (u6_1,u6_2,u7_1)) kr (mR rfl) .rfl .rfl ((.of [0,3,4,5,6,7,8,9] rfl):SelR _ _ _)
  refine zdb 6 7 kr ?_ ?_
  ·
   refine zq rfl rfl rfl rfl (.c rfl (.c rfl (.c rfl .n))) ce103 (zBc (wa0:=wa0) (wa1:=wa1) (wa2:=wa2) (wa3:=wa3) (qa:=qa) (wb0:=wb0) (wb1:=wb1) (wb2:=wb2) (wb3:=wb3) (qb:=qb) (wd0:=w14) (wd1:=w15) (wd2:=w16) (wd3:=w17) (qd:=(ye l i)) (K:=K) (hpa:=ass) (hpb:=ass) (hpd:=cbo) (hK:=cbo)) (.c (j:=5) rfl (.c (j:=6) rfl (.c (j:=7) rfl (.c (j:=8) rfl (.c (j:=0) rfl (.c (j:=1) rfl .n)))))) ?_
   rintro ⟨u6_1,u6_2⟩ -
   dsimp only [aq,nq,cq]
   exact zH (hD2 (u6_1,u6_2)) kr (mR rfl) .rfl .rfl ((.of [0,3,4,5,6,7,8,9] rfl):SelR _ _ _)
  ·
   refine zma rfl rfl rfl rfl (zn zr43 rfl) (fun u7_1 _=> ?_)
   exact zH (hD3 u7_1) kr (mR rfl) .rfl .rfl ((.of [0,1,2,3,4,5,6,7,8] rfl):SelR _ _ _)
 ·
  refine zqa<|zk<|zk<|zD<|ze<|zh<|za<|e_mv rfl<|e_p (zd rfl)<|zi<|ze<|zL ?_
  have e57:yB n qa qb l i=yv qa qb l:=by rw [show i=n by omega,yv,hn]
  rw [e57]
  exact zx Tryz.results63 (p7,c7) trivial (zl rfl) rfl (ho:=(o0 rfl)) sN
end Go.Proofs.YtjcpbhlijoigfaaGreat.Sp
namespace Go.Proofs.YtjcpbhlijoigfaaGreat.Sp
open Go
set_option linter.unusedVariables false
set_option maxRecDepth 100000
set_option maxHeartbeats 8000000
theorem zse {p:Option Addr} {n:Nat} {cap:Nat} {l:List Pg.P2} {ex:Int} {ey:Int} {fx:Int} {fy:Int} (hn:l.length=n) (hwex: -9223372036854775808≤ex∧ex≤9223372036854775807) (hwey: -9223372036854775808≤ey∧ey≤9223372036854775807) (hwfx: -9223372036854775808≤fx∧fx≤9223372036854775807) (hwfy: -9223372036854775808≤fy∧fy≤9223372036854775807) (hrng:∀x∈l,yO x) (h64:n≤64):Con yk 21 [.slice p n cap,.agg #[ya yb ex,ya yb ey],.agg #[ya yb fx,ya yb fy]] [] [slF (rI2 .i64) p cap l] (Y:=(Option Addr)×Nat) (fun y=>True) (fun y=> .slice (y.1) ((Er.winR l (ex,ey) (fx,fy)).length) (y.2)) (fun y=>[rowA 69 rR (y.1) (y.2) (Er.winR l (ex,ey) (fx,fy))]) (fun y=>[]):=by
 refine zo Tryz.func21 rfl rfl rfl (fun c=> ?_)
 show RunC _ _ _ _ _ [(0,.slice p n cap),(1,.agg #[ya yb ex,ya yb ey]),(2,.agg #[ya yb fx,ya yb fy])] [] [slF (rI2 .i64) p cap l]
 refine zea 0 rfl (fun hL0=> ?_)
 have hbq0:=Pg.pts_bq hrng
 have hpl:(yx l).length=n:=by unfold yx;rw [List.length_map];exact hn
 have hbq1:Pg.bq 99 (yv (yr ex fy) (yr ex ey) (yx l)):=Pg.clL_bq (yq om om) (yq om om) hbq0
 have hbq2:Pg.bq 963 (yv (yr fx ey) (yr fx fy) (yv (yr ex fy) (yr ex ey) (yx l))):=Pg.clL_bq (yq om om) (yq om om) hbq1
 have hbq3:Pg.bq 8739 (yv (yr ex ey) (yr fx ey) (yv (yr fx ey) (yr fx fy) (yv (yr ex fy) (yr ex ey) (yx l)))):=Pg.clL_bq (yq om om) (yq om om) hbq2
 have hcl0:(yv (yr ex fy) (yr ex ey) (yx l)).length≤2*(yx l).length:=Pg.clL_len
 have hcl1:(yv (yr fx ey) (yr fx fy) (yv (yr ex fy) (yr ex ey) (yx l))).length≤2*(yv (yr ex fy) (yr ex ey) (yx l)).length:=Pg.clL_len
 have hcl2:(yv (yr ex ey) (yr fx ey) (yv (yr fx ey) (yr fx fy) (yv (yr ex fy) (yr ex ey) (yx l)))).length≤2*(yv (yr fx ey) (yr fx fy) (yv (yr ex fy) (yr ex ey) (yx l))).length:=Pg.clL_len
 refine zh<|za<|zP rfl rfl (zS rfl rfl) (fun b1=> ?_)
 refine zP rfl rfl (zS rfl rfl) (fun b2=> ?_)
 refine e_p (zd rfl)<|zi<|ze<|zh<|za<|e_ru (zb 1 ty30 rfl rfl (.t2 .nil))<|zG rfl rfl (.c rfl .n) ce62 (zAc (ex:=ex) (ey:=ey) (hwex:=ass) (hwey:=ass)) (.n) ?_
 rintro ⟨wr03,wr14,wr25,wr36⟩ -
 dsimp only [aq,nq,cq]
 refine zP rfl rfl (zn zr69 rfl) (fun b7=> ?_)
 refine zm 0 rfl rfl rfl rfl rfl sz69 rfl (.t8 .nil) .z<|zi<|ze<|zh<|za<|e_ru (zb 1 ty30 rfl rfl (.t2 .nil))<|zG rfl rfl (.c rfl .n) ce62 (zAc (ex:=fx) (ey:=fy) (hwex:=ass) (hwey:=ass)) (.n) ?_
 rintro ⟨wr08,wr19,wr210,wr311⟩ -
 dsimp only [aq,nq,cq]
 refine zP rfl rfl (zn zr69 rfl) (fun b12=> ?_)
 refine zm 0 rfl rfl rfl rfl rfl sz69 rfl (.t8 .nil) .z<|zi<|ze<|zh<|za<|e_p (zf yg rfl sz43 rfl rfl)<|e_ru (zb 0 ty43 rfl rfl (.t4 .nil))<|e_p (zf yg rfl sz43 rfl rfl)<|e_ru (zb 1 ty43 rfl rfl (.s4 (.t4 .nil)))<|e_p (zK zr69 rfl yg (.c sz43 (.c sz43 .n)) (.c rfl (.c rfl .n)) (.c rfl rfl rfl (.t4 .nil) (.c rfl rfl rfl (.s4 (.t4 .nil)) .n)))<|zP rfl rfl (zn zr69 rfl) (fun b13=> ?_)
 refine zm 0 rfl rfl rfl rfl rfl sz69 rfl (.t8 .nil) .z<|zi<|ze<|zh<|za<|e_p (zf yg rfl sz43 rfl rfl)<|e_ru (zb 2 ty43 rfl rfl (.t4 .nil))<|e_p (zf yg rfl sz43 rfl rfl)<|e_ru (zb 1 ty43 rfl rfl (.s4 (.t4 .nil)))<|e_p (zK zr69 rfl yg (.c sz43 (.c sz43 .n)) (.c rfl (.c rfl .n)) (.c rfl rfl rfl (.t4 .nil) (.c rfl rfl rfl (.s4 (.t4 .nil)) .n)))<|zP rfl rfl (zn zr69 rfl) (fun b14=> ?_)
 refine zm 0 rfl rfl rfl rfl rfl sz69 rfl (.t8 .nil) .z<|zi<|ze<|zh<|zY (OW:=[]) (O:=[boxA b14 69 (cw [wr03,wr14,wr210,wr311]),boxA b13 69 (cw [wr08,wr19,wr25,wr36]),boxA b12 69 (cw [wr08,wr19,wr210,wr311]),boxA b7 69 (cw [wr03,wr14,wr25,wr36]),boxA b2 30 [ya yb fx,ya yb fy],boxA b1 30 [ya yb ex,ya yb ey]]) 100000 mixed (.then .ret) kr<|e_dm 0 rfl rfl rfl<|e_u 2 rfl rfl (zb 0 ty69 rfl rfl (.t8 .nil))<|e_u 3 rfl rfl (zb 3 ty69 rfl rfl (.t8 .nil))<|e_one 1 (zq rfl rfl rfl rfl (.c rfl .n) ce64 (zre (p:=p) (n:=n) (cap:=cap) (l:=l) (hn:=ass) (hb:=by first|rfl|assumption|omega|(exact yq om om))) (.c (j:=4) rfl .n) ?_)
 rintro ⟨p215,c216⟩ -
 dsimp only [aq,nq,cq]
 refine zWb 0 rfl .z<|e_one 4 (zq rfl rfl rfl rfl (.c rfl (.c rfl (.c rfl .n))) ce63 (zsc (p:=p215) (n:=(yx l).length) (cap:=c216) (l:=(yx l)) (wa0:=wr03) (wa1:=wr14) (wa2:=wr210) (wa3:=wr311) (qa:=(yr ex fy)) (wb0:=wr03) (wb1:=wr14) (wb2:=wr25) (wb3:=wr36) (qb:=(yr ex ey)) (K:=3) (hn:=by first|rfl|assumption|omega|(exact yq om om)) (hpa:=by first|rfl|assumption|omega|(exact yq om om)) (hpb:=by first|rfl|assumption|omega|(exact yq om om)) (hbq:=by first|rfl|assumption|omega|(exact yq om om)) (hK:=by first|rfl|assumption|omega|(exact yq om om)) (hnK:=by first|rfl|assumption|omega|(exact yq om om))) (.c (j:=0) rfl (.c (j:=3) rfl (.c (j:=2) rfl (.c (j:=3) rfl (.c (j:=4) rfl .n))))) ?_)
 rintro ⟨p217,c218⟩ -
 dsimp only [aq,nq,cq]
 refine e_pv 5 rfl rfl (zd rfl)<|zW kr<|ze<|zh<|za<|e_mv rfl<|e_ru (zb 3 ty69 rfl rfl (.t8 .nil))<|e_ru (zb 4 ty69 rfl rfl (.t8 .nil))<|zka 0 rfl .z<|zG rfl rfl (.c rfl (.c rfl (.c rfl .n))) ce63 (zsc (p:=p217) (n:=(yv (yr ex fy) (yr ex ey) (yx l)).length) (cap:=c218) (l:=(yv (yr ex fy) (yr ex ey) (yx l))) (wa0:=wr08) (wa1:=wr19) (wa2:=wr25) (wa3:=wr36) (qa:=(yr fx ey)) (wb0:=wr08) (wb1:=wr19) (wb2:=wr210) (wb3:=wr311) (qb:=(yr fx fy)) (K:=99) (hn:=by first|rfl|assumption|omega|(exact yq om om)) (hpa:=by first|rfl|assumption|omega|(exact yq om om)) (hpb:=by first|rfl|assumption|omega|(exact yq om om)) (hbq:=by first|rfl|assumption|omega|(exact yq om om)) (hK:=by first|rfl|assumption|omega|(exact yq om om)) (hnK:=by first|rfl|assumption|omega|(exact yq om om))) (.c (j:=0) rfl (.c (j:=2) rfl (.c (j:=5) rfl (.c (j:=2) rfl (.c (j:=3) rfl .n))))) ?_
 rintro ⟨p219,c220⟩ -
 dsimp only [aq,nq,cq]
 refine e_p (zd rfl)<|zi<|ze<|zh<|za<|e_mv rfl<|e_ru (zb 6 ty69 rfl rfl (.t8 .nil))<|e_ru (zb 4 ty69 rfl rfl (.t8 .nil))<|zka 0 rfl .z<|zG rfl rfl (.c rfl (.c rfl (.c rfl .n))) ce63 (zsc (p:=p219) (n:=(yv (yr fx ey) (yr fx fy) (yv (yr ex fy) (yr ex ey) (yx l))).length) (cap:=c220) (l:=(yv (yr fx ey) (yr fx fy) (yv (yr ex fy) (yr ex ey) (yx l)))) (wa0:=wr03) (wa1:=wr14) (wa2:=wr25) (wa3:=wr36) (qa:=(yr ex ey)) (wb0:=wr08) (wb1:=wr19) (wb2:=wr25) (wb3:=wr36) (qb:=(yr fx ey)) (K:=963) (hn:=by first|rfl|assumption|omega|(exact yq om om)) (hpa:=by first|rfl|assumption|omega|(exact yq om om)) (hpb:=by first|rfl|assumption|omega|(exact yq om om)) (hbq:=by first|rfl|assumption|omega|(exact yq om om)) (hK:=by first|rfl|assumption|omega|(exact yq om om)) (hnK:=by first|rfl|assumption|omega|(exact yq om om))) (.c (j:=0) rfl (.c (j:=5) rfl (.c (j:=6) rfl (.c (j:=3) rfl (.c (j:=6) rfl .n))))) ?_
 rintro ⟨p221,c222⟩ -
 dsimp only [aq,nq,cq]
 refine e_p (zd rfl)<|zi<|ze<|zh<|za<|e_mv rfl<|e_ru (zb 6 ty69 rfl rfl (.t8 .nil))<|e_ru (zb 4 ty69 rfl rfl (.t8 .nil))<|zka 0 rfl .z<|zG rfl rfl (.c rfl (.c rfl (.c rfl .n))) ce63 (zsc (p:=p221) (n:=(yv (yr ex ey) (yr fx ey) (yv (yr fx ey) (yr fx fy) (yv (yr ex fy) (yr ex ey) (yx l)))).length) (cap:=c222) (l:=(yv (yr ex ey) (yr fx ey) (yv (yr fx ey) (yr fx fy) (yv (yr ex fy) (yr ex ey) (yx l))))) (wa0:=wr08) (wa1:=wr19) (wa2:=wr210) (wa3:=wr311) (qa:=(yr fx fy)) (wb0:=wr03) (wb1:=wr14) (wb2:=wr210) (wb3:=wr311) (qb:=(yr ex fy)) (K:=8739) (hn:=by first|rfl|assumption|omega|(exact yq om om)) (hpa:=by first|rfl|assumption|omega|(exact yq om om)) (hpb:=by first|rfl|assumption|omega|(exact yq om om)) (hbq:=by first|rfl|assumption|omega|(exact yq om om)) (hK:=by first|rfl|assumption|omega|(exact yq om om)) (hnK:=by first|rfl|assumption|omega|(exact yq om om))) (.c (j:=0) rfl (.c (j:=4) rfl (.c (j:=5) rfl (.c (j:=6) rfl (.c (j:=5) rfl .n))))) ?_
 rintro ⟨p223,c224⟩ -
 dsimp only [aq,nq,cq]
 refine e_p (zd rfl)<|zi<|ze<|zL ?_
 have e25:(yv (yr fx fy) (yr ex fy) (yv (yr ex ey) (yr fx ey) (yv (yr fx ey) (yr fx fy) (yv (yr ex fy) (yr ex ey) (yx l)))))=(Er.winR l (ex,ey) (fx,fy)):=by rfl
 rw [e25]
 exact zx Tryz.results21 (p223,c224) trivial (zl rfl) rfl (ho:=(o0 rfl)) sN
end Go.Proofs.YtjcpbhlijoigfaaGreat.Sp
namespace Go.Proofs.YtjcpbhlijoigfaaGreat.Sp
open Go
set_option linter.unusedVariables false
set_option maxRecDepth 100000
set_option maxHeartbeats 8000000
theorem zYd {k1:Bool} {u1:Wd} {v1:Wd} {q1:Rat} (hl:yz q1≤1099511627776):Con yk 23 [.agg #[u1.b,u1.l,v1.b,v1.l]] [] [qF k1 u1 v1 q1] (Y:=Wd×Wd) (fun y=>True) (fun y=> .agg #[y.1.b,y.1.l,y.2.b,y.2.l]) (fun y=>[]) (fun y=>[qF true y.1 y.2 (Big.qabs q1)]):=by
 refine zo Tryz.func23 rfl rfl rfl (fun c=> ?_)
 show RunC _ _ _ _ _ [(0,.agg #[u1.b,u1.l,v1.b,v1.l])] [] [qF k1 u1 v1 q1]
 refine zh<|za<|zP rfl rfl (zS rfl rfl) (fun b1=> ?_)
 refine zP rfl rfl (zn zr43 rfl) (fun b2=> ?_)
 refine zi<|ze<|zh<|zh<|za<|e_ru (zb 1 ty43 rfl rfl (.t4 .nil))<|zQ rfl rfl (.c rfl .n) ce66 (zDb (k1:=k1) (u1:=u1) (v1:=v1) (q1:=q1) (hl:=ass)) (.c (j:=0) rfl .n)<|e_p (zda rfl rfl)<|zi<|ze<|zJ rfl (fun hneg=> ?_) (fun hneg=> ?_)
 ·
  refine zh<|za<|e_ru (zb 1 ty43 rfl rfl (.t4 .nil))<|zG rfl rfl (.c rfl .n) ce67 (zWd (k1:=k1) (u1:=u1) (v1:=v1) (q1:=q1) (hl:=ass)) (.c (j:=0) rfl .n) ?_
  rintro ⟨w33,w44⟩ -
  dsimp only [aq,nq,cq]
  refine zm 0 rfl rfl rfl rfl rfl sz43 rfl (.t4 .nil) .z<|zi<|ze<|zL<|zj ?_
  exact zx Tryz.results23 (w33,w44) trivial (zv 0 ty43 rfl rfl (.t4 .nil)) rfl (ho:=oN) ((.e (j:=0) rfl (by rw [Big.qabs,if_pos (Big.sgq_lt.1 hneg)]) .n):SelR _ _ _)
 ·
  refine zC<|ze<|zh<|za<|e_ru (zb 1 ty43 rfl rfl (.t4 .nil))<|zG rfl rfl (.c rfl .n) ce68 (zLa (k1:=k1) (u1:=u1) (v1:=v1) (q1:=q1)) (.c (j:=0) rfl .n) ?_
  rintro ⟨w35,w46⟩ -
  dsimp only [aq,nq,cq]
  refine zm 0 rfl rfl rfl rfl rfl sz43 rfl (.t4 .nil) .z<|zi<|ze<|zL ?_
  exact zx Tryz.results23 (w35,w46) trivial (zv 0 ty43 rfl rfl (.t4 .nil)) rfl (ho:=oN) ((.e (j:=0) rfl (by rw [Big.qabs,if_neg (fun k=>hneg (Big.sgq_lt.2 k))]) .n):SelR _ _ _)
end Go.Proofs.YtjcpbhlijoigfaaGreat.Sp
namespace Go.Proofs.YtjcpbhlijoigfaaGreat.Sp
open Go
set_option linter.unusedVariables false
set_option maxRecDepth 100000
set_option maxHeartbeats 8000000
theorem zxg {p:Option Addr} {n:Nat} {cap:Nat} {l:List Pg.P2} {ex:Int} {ey:Int} (hn:l.length=n):Con yk 90 [.slice p n cap,.agg #[ya yb ex,ya yb ey]] [] [slF (rI2 .i64) p cap l] (Y:=Int) (fun y=>(0≤y↔(ex,ey)∈l)) (fun y=> ya yb y) (fun y=>[]) (fun y=>[]):=by
 refine zo Tryz.func90 rfl rfl rfl (fun c=> ?_)
 show RunC _ _ _ _ _ [(0,.slice p n cap),(1,.agg #[ya yb ex,ya yb ey])] [] [slF (rI2 .i64) p cap l]
 refine zea 0 rfl (fun hL0=> ?_)
 refine zh<|za<|zP rfl rfl (zS rfl rfl) (fun b1=> ?_)
 refine e_p (zd rfl)<|zi<|ze<|zh<|zh<|za<|e_mv rfl<|e_p (zR yh rfl)<|e_mv rfl<|zi<|ze<|zE<|zra (X:=Nat) (fun x:Nat=>x≤n∧∀j,j<x→¬((ex,ey)=(l.getD j (0,0)))) (fun x=>[(8,ya yb ((x:Nat):Int)),(7,ya yb ((n:Nat):Int)),(3,yc (some ⟨b1,0,none⟩)),(0,.slice p n cap)]) (fun x=>[boxA b1 30 [ya yb ex,ya yb ey]]) (fun x=>[slF (rI2 .i64) p cap l]) (fun x:Nat=>n - x) 0 (show 0≤n∧∀j,j<0→¬((ex,ey)=(l.getD j (0,0))) from by exact ⟨Nat.zero_le _,fun j h=>by omega⟩) ((.e rfl cgs (.of rfl)):SubM _ _) (ho:=(o0 rfl)) (s0 rfl) ?_
 rintro i hI
 replace hI:i≤n∧∀j,j<i→¬((ex,ey)=(l.getD j (0,0))):=hI
 try dsimp only
 obtain ⟨hi,hall⟩:=hI
 refine zh<|za<|e_p (zda rfl rfl)<|zi<|ze<|zh<|zJ rfl (fun h2=> ?_) (fun h2=> ?_)
 ·
  refine zC<|ze<|zh<|zE<|zh<|za<|e_mv rfl<|e_p (zd rfl)<|zi<|ze<|zh<|zY (OW:=[]) (O:=[boxA b1 30 [ya yb ex,ya yb ey]]) 100000 mixed (.then (.block (.then (.then (.block (.then .ret)))))) kr<|e_u 0 rfl rfl (zb 0 ty30 rfl rfl (.t2 .nil))<|e_dm 1 rfl rfl rfl<|e_dm 2 rfl rfl rfl<|zga (x0:=(l.getD i (0,0))) 3 rfl rfl kr kr 0 i rfl yh sz30 rfl rfl rfl cbs rfl rfl (gD (d:=(0,0)) om) (fun b3 o4 hok5=> ?_)
  obtain ⟨hok5x,hok5y⟩:=hok5
  replace hok5x:=zM.1 hok5x
  replace hok5y:=zM.1 hok5y
  refine e_u 4 rfl rfl (zt (j:=0) 0 ty30 rfl rfl rfl (.t2 .nil))<|e_pv 5 rfl rfl (zSe (p:=ex=(l.getD i (0,0)).1∧ey=(l.getD i (0,0)).2) kr rfl rfl (zRe yl kr (zlf dd ty3 rfl rfl (zSc yG) (zlf dd ty3 rfl rfl (zSc yG) zog))) (by simp [Bool.decide_and]))<|zW kr<|ze<|zJ rfl (fun hb=> ?_) (fun hb=> ?_)
  ·
   refine zh<|za<|e_mv rfl<|e_p (zd rfl)<|zi<|ze<|zL<|zy<|zj<|zj<|zy<|zj ?_
   exact zx Tryz.results90 ((i:Nat):Int) (⟨fun _=>by have h9:(ex,ey)=(l.getD i (0,0)):=(by first|exact hb|exact Prod.ext hb.1 hb.2);rw [h9];exact Ms.getD_mem (0,0) om,fun _=>by omega⟩) (zl rfl) rfl (ho:=oN) sN
  ·
   refine zC<|zT<|ze<|za<|e_p (zO (z:=(((i+1):Nat):Int)) rfl rfl (w64 om))<|e_mv rfl<|zi<|zla (i+1) (show (i+1)≤n∧∀j,j<(i+1)→¬((ex,ey)=(l.getD j (0,0))) from by exact ⟨by omega,yw (P:=fun j=>¬((ex,ey)=(l.getD j (0,0)))) hall (fun k=>hb (by first|exact k|exact ⟨congrArg Prod.fst k,congrArg Prod.snd k⟩))⟩) (by show n - (i+1)<n - i;omega) (mR rfl) (ho:=(o0 rfl)) ((.c (j:=1) rfl .n):SelR _ _ _)
 ·
  refine zqa<|zk<|zk<|zD<|ze<|zh<|za<|e_p (zd rfl)<|zi<|ze<|zL ?_
  exact zx Tryz.results90 (-1) (⟨fun h=>by omega,fun h=>by obtain ⟨j,h1,h2⟩:=Ms.mem_getD (0,0) h;exact absurd h2.symm (hall j om)⟩) (zl rfl) rfl (ho:=oN) sN
theorem zyg {p:Option Addr} {n:Nat} {cap:Nat} {l:List Pg.P2} {ex:Int} {ey:Int} (hn:l.length=n):Con yk 49 [.slice p n cap,.agg #[ya yb ex,ya yb ey]] [] [slF (rI2 .i64) p cap l] (Y:=Unit) (fun y=>True) (fun y=> .bool (decide ((ex,ey)∈l))) (fun y=>[]) (fun y=>[]):=by
 refine zo Tryz.func49 rfl rfl rfl (fun c=> ?_)
 show RunC _ _ _ _ _ [(0,.slice p n cap),(1,.agg #[ya yb ex,ya yb ey])] [] [slF (rI2 .i64) p cap l]
 refine zea 0 rfl (fun hL0=> ?_)
 refine zh<|za<|zP rfl rfl (zS rfl rfl) (fun b1=> ?_)
 refine e_p (zd rfl)<|zi<|ze<|zh<|za<|e_mv rfl<|e_ru (zb 0 ty30 rfl rfl (.t2 .nil))<|zG rfl rfl (.c rfl (.c rfl .n)) ce90 (zxg (p:=p) (n:=n) (cap:=cap) (l:=l) (ex:=ex) (ey:=ey) (hn:=ass)) (.c (j:=0) rfl .n) ?_
 rintro r2 hr
 dsimp only [aq,nq,cq]
 replace hr:(0≤r2↔(ex,ey)∈l):=hr
 refine e_p (zNa rfl rfl)<|e_p (zd rfl)<|zi<|ze<|zL ?_
 exact zx Tryz.results49 () trivial (zl rfl) (congrArg Value.bool (decide_eq_decide.2 hr.symm)) (ho:=oN) sN
theorem zMf {p:Option Addr} {n:Nat} {cap:Nat} {l:List (Pg.P2)} (hn:l.length=n):Con yk 89 [.slice p n cap,.func (.func 46) #[] #[]] [] [slF (rI2 .i64) p cap l] (Y:=Int) (fun y=>(0≤y↔l.any Pg.far=true)) (fun y=> ya yb y) (fun y=>[]) (fun y=>[]):=by
 refine zo Tryz.func89 rfl rfl rfl (fun c=> ?_)
 show RunC _ _ _ _ _ [(0,.slice p n cap),(1,.func (.func 46) #[] #[])] [] [slF (rI2 .i64) p cap l]
 refine zea 0 rfl (fun hL0=> ?_)
 refine zh<|za<|e_p (zd rfl)<|zi<|ze<|zh<|zh<|za<|e_mv rfl<|e_p (zR yh rfl)<|e_mv rfl<|zi<|ze<|zE<|zra (X:=Nat) (fun x:Nat=>x≤n∧∀j,j<x→Pg.far (l.getD j (0,0))=false) (fun x=>[(8,ya yb ((x:Nat):Int)),(7,ya yb ((n:Nat):Int)),(0,.slice p n cap),(1,.func (.func 46) #[] #[])]) (fun x=>[]) (fun x=>[slF (rI2 .i64) p cap l]) (fun x:Nat=>n - x) 0 (show 0≤n∧∀j,j<0→Pg.far (l.getD j (0,0))=false from by exact ⟨by omega,fun j h=>by omega⟩) ((.e rfl cgs (.of rfl)):SubM _ _) (ho:=oN) (s0 rfl) ?_
 rintro i hI
 replace hI:i≤n∧∀j,j<i→Pg.far (l.getD j (0,0))=false:=hI
 try dsimp only
 obtain ⟨hi,hall⟩:=hI
 refine zh<|za<|e_p (zda rfl rfl)<|zi<|ze<|zh<|zJ rfl (fun h1=> ?_) (fun h1=> ?_)
 ·
  refine zC<|ze<|zh<|zE<|zh<|za<|e_mv rfl<|e_p (zd rfl)<|zi<|ze<|zh<|za<|e_mv rfl<|e_mv rfl<|e_mv rfl<|zX (x0:=(l.getD i (0,0))) 0 i rfl yh sz30 rfl rfl rfl cbs rfl rfl (gD (d:=(0,0)) om) (fun b2 o3 hok4=> ?_)
  obtain ⟨hok4x,hok4y⟩:=hok4
  replace hok4x:=zM.1 hok4x
  replace hok4y:=zM.1 hok4y
  refine e_ru (zt (j:=0) 0 ty30 rfl rfl rfl (.t2 .nil))<|zFc (first:=[]) (cap:=[]) rfl rfl rfl (.c rfl .n) ce46 (zlc (ex:=(l.getD i (0,0)).1) (ey:=(l.getD i (0,0)).2) (hwex:=cbb) (hwey:=cbb)) (.n) ?_
  rintro ⟨⟩ -
  dsimp only [aq,nq,cq]
  refine zi<|ze<|zxb rfl (fun hb=> ?_) (fun hb=> ?_)
  ·
   refine zh<|za<|e_mv rfl<|e_p (zd rfl)<|zi<|ze<|zL<|zy<|zj<|zj<|zy<|zj ?_
   exact zx Tryz.results89 ((i:Nat):Int) (⟨fun _=>Ms.any_true (0,0) (i:=i) om (by first|exact hb|simpa using hb),fun _=>by omega⟩) (zl rfl) rfl (ho:=oN) sN
  ·
   refine zC<|zT<|ze<|za<|e_p (zO (z:=(((i+1):Nat):Int)) rfl rfl (w64 om))<|e_mv rfl<|zi<|zla (i+1) (show (i+1)≤n∧∀j,j<(i+1)→Pg.far (l.getD j (0,0))=false from by exact ⟨by omega,yw hall (by first|exact hb|simpa using hb)⟩) (by show n - (i+1)<n - i;omega) (mR rfl) (ho:=oN) ((.c (j:=1) rfl .n):SelR _ _ _)
 ·
  refine zqa<|zk<|zk<|zD<|ze<|zh<|za<|e_p (zd rfl)<|zi<|ze<|zL ?_
  exact zx Tryz.results89 (-1) (⟨fun h=>by omega,fun h=>by rw [Ms.any_false (0,0) (fun j hj=>hall j om)] at h;cases h⟩) (zl rfl) rfl (ho:=oN) sN
theorem zNf {p:Option Addr} {n:Nat} {cap:Nat} {l:List (Pg.P2)} (hn:l.length=n):Con yk 45 [.slice p n cap,.func (.func 46) #[] #[]] [] [slF (rI2 .i64) p cap l] (Y:=Unit) (fun y=>True) (fun y=> .bool (l.any Pg.far)) (fun y=>[]) (fun y=>[]):=by
 refine zo Tryz.func45 rfl rfl rfl (fun c=> ?_)
 show RunC _ _ _ _ _ [(0,.slice p n cap),(1,.func (.func 46) #[] #[])] [] [slF (rI2 .i64) p cap l]
 refine zea 0 rfl (fun hL0=> ?_)
 refine zh<|za<|e_p (zd rfl)<|zi<|ze<|zh<|za<|e_mv rfl<|e_mv rfl<|zG rfl rfl (.c rfl (.c rfl .n)) ce89 (zMf (p:=p) (n:=n) (cap:=cap) (l:=l) (hn:=ass)) (.c (j:=0) rfl .n) ?_
 rintro r1 hr
 dsimp only [aq,nq,cq]
 replace hr:(0≤r1↔l.any Pg.far=true):=hr
 refine e_p (zNa rfl rfl)<|e_p (zd rfl)<|zi<|ze<|zL ?_
 exact zx Tryz.results45 () trivial (zl rfl) (congrArg Value.bool (by rw [Bool.eq_iff_iff,decide_eq_true_iff];exact hr.symm)) (ho:=oN) sN
end Go.Proofs.YtjcpbhlijoigfaaGreat.Sp
namespace Go.Proofs.YtjcpbhlijoigfaaGreat.Sp
open Go
set_option linter.unusedVariables false
set_option maxRecDepth 100000
set_option maxHeartbeats 8000000
theorem zed {p:Option Addr} {n:Nat} {cap:Nat} {l:List Pg.P2} (hn:l.length=n):Con yk 15 [.slice p n cap] [] [slF (rI2 .i64) p cap l] (Y:=Unit) (fun y=>True) (fun y=> ya yb (Pg.ck l)) (fun y=>[]) (fun y=>[]):=by
 refine zo Tryz.func15 rfl rfl rfl (fun c=> ?_)
 show RunC _ _ _ _ _ [(0,.slice p n cap)] [] [slF (rI2 .i64) p cap l]
 refine zea 0 rfl (fun hL0=> ?_)
 refine zh<|za<|e_p (zd rfl)<|zi<|ze<|zh<|za<|e_mv rfl<|e_p (zR yh rfl)<|e_p (zd rfl)<|zi<|ze<|zh<|zGa (X:=Unit) (fun x=>True) (fun x=>[(18,.bool (decide ((((n:Nat):Int)<3)∨(64<((n:Nat):Int))))),(3,ya yb ((n:Nat):Int)),(2,ya yb 0),(0,.slice p n cap)]) (fun x=>[]) (fun x=>[slF (rI2 .i64) p cap l]) ?_ ?_
 ·
  refine za<|e_mv rfl<|e_p (zda rfl rfl)<|zZ rfl rfl (zaa rfl) (fun h1=> ?_) (fun h1=> ?_)
  ·
   refine e_no<|e_no<|e_p (zp rfl rfl)<|zi ?_
   exact zha () tt9 ((.e rfl (congrArg Value.bool cbu) (.of rfl)):SubM _ _) (ho:=oN) (s0 rfl)
  ·
   refine e_mv rfl<|e_p (zDa rfl rfl)<|e_p (zp rfl rfl)<|zi ?_
   exact zha () tt9 ((.e rfl (congrArg Value.bool cbu) (.of rfl)):SubM _ _) (ho:=oN) (s0 rfl)
 ·
  rintro ⟨⟩ -
  try dsimp only
  refine zJ rfl (fun hlim=> ?_) (fun hlim=> ?_)
  ·
   refine zh<|za<|e_p (zd rfl)<|zi<|ze<|zL<|zj ?_
   exact zx yF () trivial (zl rfl) (by rw [Pg.ck_lim om]) (ho:=oN) sN
  ·
   have hlm:¬(l.length<3∨64<l.length):=by omega
   refine zC<|ze<|zh<|zh<|za<|e_mv rfl<|e_p (zR yh rfl)<|e_mv rfl<|zi<|ze<|zE<|zra (X:=Nat) (fun x:Nat=>x≤n∧Pg.ck1 (l.take x) (l.drop x)=Pg.ck1 [] l) (fun x=>[(21,ya yb ((x:Nat):Int)),(20,ya yb ((n:Nat):Int)),(19,.slice p n cap),(3,ya yb ((n:Nat):Int)),(0,.slice p n cap)]) (fun x=>[]) (fun x=>[slF (rI2 .i64) p cap l]) (fun x:Nat=>n - x) 0 (show 0≤n∧Pg.ck1 (l.take 0) (l.drop 0)=Pg.ck1 [] l from by exact ⟨Nat.zero_le _,rfl⟩) ((.e rfl cgs (.of rfl)):SubM _ _) (ho:=oN) (s0 rfl) ?_
   rintro i hI
   replace hI:i≤n∧Pg.ck1 (l.take i) (l.drop i)=Pg.ck1 [] l:=hI
   try dsimp only
   obtain ⟨hi,hck⟩:=hI
   refine zh<|za<|e_p (zda rfl rfl)<|zi<|ze<|zh<|zJ rfl (fun h2=> ?_) (fun h2=> ?_)
   ·
    have hnp:0<n:=by omega
    have hg64: -9223372036854775808≤0:=by omega
    refine zC<|ze<|zh<|zE<|zh<|za<|e_mv rfl<|zX (x0:=(l.getD i (0,0))) 0 i rfl yh sz30 rfl rfl rfl cbs rfl rfl (gD (d:=(0,0)) om) (fun b3 o4 hok5=> ?_)
    obtain ⟨hok5x,hok5y⟩:=hok5
    replace hok5x:=zM.1 hok5x
    replace hok5y:=zM.1 hok5y
    refine e_ru (zt (j:=0) 0 ty30 rfl rfl rfl (.t2 .nil))<|zP rfl rfl (zn zr30 rfl) (fun b6=> ?_)
    refine e_p (zd rfl)<|zm 0 rfl rfl rfl rfl rfl sz30 rfl (.t2 .nil) .z<|zi<|ze<|zh<|zh<|za<|e_ru (zb 0 ty30 rfl rfl (.t2 .nil))<|zQ rfl rfl (.c rfl .n) ce46 (zlc (ex:=(l.getD i (0,0)).1) (ey:=(l.getD i (0,0)).2) (hwex:=cbo) (hwey:=cbo)) (.n)<|zi<|ze<|zxb rfl (fun hfar=> ?_) (fun hfar=> ?_)
    ·
     refine zh<|za<|e_p (zd rfl)<|zi<|ze<|zL<|zj<|zy<|zj<|zj<|zy<|zj ?_
     exact zx yF () trivial (zl rfl) (by rw [Pg.ck_one hlm (by rw [← hck,Pg.ck1_far om hfar];decide),←hck,Pg.ck1_far om hfar]) (ho:=oN) sN
    ·
     refine zC<|ze<|zh<|zY (OW:=[]) (O:=[boxA b6 30 [ya yb ((l.getD i (0,0)).1),ya yb ((l.getD i (0,0)).2)]]) 100000 mixed (.then (.block (.then (.then (.block (.then .ret)))))) kr<|e_dm 0 rfl rfl rfl<|e_dm 1 rfl rfl rfl<|e_pv 2 rfl rfl (zzb (hi:=i) yh sz30 rfl (.s rfl) (.inr ⟨_,rfl⟩) om)<|zvb (zgc 1 rfl i om) (fun _ _=> ?_)
     refine e_u 3 rfl rfl (zb 0 ty30 rfl rfl (.t2 .nil))<|e_one 4 (zta rfl rfl rfl rfl (.c rfl (.c rfl .n)) ce49 (zyg (p:=p) (n:=i) (cap:=cap) (l:=(l.take i)) (ex:=(l.getD i (0,0)).1) (ey:=(l.getD i (0,0)).2) (hn:=by first|rfl|assumption|(rw [List.length_take];omega))) (.c (j:=0) rfl .n) ?_)
     refine zW kr<|ze<|zJ rfl (fun hdup=> ?_) (fun hdup=> ?_)
     ·
      refine zh<|za<|e_p (zd rfl)<|zi<|ze<|zL<|zy<|zj<|zj<|zy<|zj ?_
      exact zx yF () trivial (zl rfl) (by rw [Pg.ck_one hlm (by rw [← hck,Pg.ck1_dup om hfar hdup];decide),←hck,Pg.ck1_dup om hfar hdup]) (ho:=oN) sN
     ·
      refine zC<|zT<|ze<|za<|e_p (zO (z:=(((i+1):Nat):Int)) rfl rfl (w64 om))<|e_mv rfl<|zi<|zla (i+1) (show (i+1)≤n∧Pg.ck1 (l.take (i+1)) (l.drop (i+1))=Pg.ck1 [] l from by exact ⟨by omega,(Pg.ck1_go om hfar hdup).trans hck⟩) (by show n - (i+1)<n - i;omega) (mR rfl) (ho:=oN) ((.c (j:=2) rfl .n):SelR _ _ _)
   ·
    have hz1:Pg.ck1 [] l=0:=by rw [← hck];exact Pg.ck1_end om
    have hrng:=Pg.ck1_zero hz1
    refine zqa<|zk<|zk<|zD<|ze<|zh<|zh<|za<|e_mv rfl<|e_p (zR yh rfl)<|e_mv rfl<|zi<|ze<|zE<|zra (X:=Nat) (fun x:Nat=>x≤n∧∀w,w<x→Pg.smI n l w) (fun x=>[(36,ya yb ((x:Nat):Int)),(35,ya yb ((n:Nat):Int)),(3,ya yb ((n:Nat):Int)),(0,.slice p n cap)]) (fun x=>[]) (fun x=>[slF (rI2 .i64) p cap l]) (fun x:Nat=>n - x) 0 (show 0≤n∧∀w,w<0→Pg.smI n l w from by exact ⟨Nat.zero_le _,fun w h=>by omega⟩) ((.e rfl cgs (.of rfl)):SubM _ _) (ho:=oN) (s0 rfl) ?_
    rintro k hI
    replace hI:k≤n∧∀w,w<k→Pg.smI n l w:=hI
    try dsimp only
    obtain ⟨hk,hall⟩:=hI
    refine zh<|za<|e_p (zda rfl rfl)<|zi<|ze<|zh<|zJ rfl (fun h7=> ?_) (fun h7=> ?_)
    ·
     have hm1:(k+1)%n<n:=Nat.mod_lt _ om
     have hm2:(k+2)%n<n:=Nat.mod_lt _ om
     have hg0:yO (l.getD k (0,0)):=Pg.Ok.gt hrng om
     have hg1:yO (l.getD ((k+1)%n) (0,0)):=Pg.Ok.gt hrng (by rw [hn];exact Nat.mod_lt _ om)
     have hg2:yO (l.getD ((k+2)%n) (0,0)):=Pg.Ok.gt hrng (by rw [hn];exact Nat.mod_lt _ om)
     refine zC<|ze<|zh<|zE<|zh<|za<|e_mv rfl<|e_p (zd rfl)<|zi<|ze<|zh<|zY (OW:=[]) (O:=[]) 21 mixed (.then (.block (.then (.then (.block (.then .ret)))))) kr<|e_dm 0 rfl rfl rfl<|e_dm 1 rfl rfl rfl<|zga (x0:=(l.getD k (0,0))) 2 rfl rfl kr kr 0 k rfl yh sz30 rfl rfl rfl cbs rfl rfl (gD (d:=(0,0)) om) (fun b8 o9 hok10=> ?_)
     obtain ⟨hok10x,hok10y⟩:=hok10
     replace hok10x:=zM.1 hok10x
     replace hok10y:=zM.1 hok10y
     refine e_u 3 rfl rfl (zt (j:=0) 0 ty30 rfl rfl rfl (.t2 .nil))<|e_dm 4 rfl rfl rfl<|e_dm 5 rfl rfl rfl<|e_pv 6 rfl rfl (zO (z:=(((k+1):Nat):Int)) rfl rfl (w64 om))<|e_dm 7 rfl rfl rfl<|e_pv 8 rfl rfl (zza (z:=((((k+1)%n):Nat):Int)) rfl rfl om (remN om om))<|zga (x0:=(l.getD ((k+1)%n) (0,0))) 9 rfl rfl kr kr 1 ((k+1)%n) rfl yh sz30 rfl rfl rfl cbs rfl rfl (gD (d:=(0,0)) om) (fun b11 o12 hok13=> ?_)
     obtain ⟨hok13x,hok13y⟩:=hok13
     replace hok13x:=zM.1 hok13x
     replace hok13y:=zM.1 hok13y
     refine e_u 10 rfl rfl (zt (j:=0) 0 ty30 rfl rfl rfl (.t2 .nil))<|e_dm 11 rfl rfl rfl<|e_dm 12 rfl rfl rfl<|e_pv 13 rfl rfl (zO (z:=(((k+2):Nat):Int)) rfl rfl (w64 om))<|e_dm 14 rfl rfl rfl<|e_pv 15 rfl rfl (zza (z:=((((k+2)%n):Nat):Int)) rfl rfl om (remN om om))<|zga (x0:=(l.getD ((k+2)%n) (0,0))) 16 rfl rfl kr kr 2 ((k+2)%n) rfl yh sz30 rfl rfl rfl cbs rfl rfl (gD (d:=(0,0)) om) (fun b14 o15 hok16=> ?_)
     obtain ⟨hok16x,hok16y⟩:=hok16
     replace hok16x:=zM.1 hok16x
     replace hok16y:=zM.1 hok16y
     refine e_u 17 rfl rfl (zt (j:=0) 0 ty30 rfl rfl rfl (.t2 .nil))<|zNb (m':=[(56,.agg #[ya yb ((l.getD ((k+2)%n) (0,0)).1),ya yb ((l.getD ((k+2)%n) (0,0)).2)]),(49,.agg #[ya yb ((l.getD ((k+1)%n) (0,0)).1),ya yb ((l.getD ((k+1)%n) (0,0)).2)]),(42,.agg #[ya yb ((l.getD k (0,0)).1),ya yb ((l.getD k (0,0)).2)]),(6,ya yb ((k:Nat):Int)),(36,ya yb ((k:Nat):Int)),(35,ya yb ((n:Nat):Int)),(3,ya yb ((n:Nat):Int)),(0,.slice p n cap)]) (R':=[slF (rI2 .i64) p cap l]) (mR rfl) (List.Perm.refl _) (List.Perm.refl _) ((.c (j:=3) rfl .n):SelR _ _ _) ?_
     obtain ⟨qd1,hqd1⟩:∃z:Int,z=(l.getD ((k+2)%n) (0,0)).1:=⟨_,rfl⟩
     rw [← hqd1]
     obtain ⟨qd2,hqd2⟩:∃z:Int,z=(l.getD ((k+2)%n) (0,0)).2:=⟨_,rfl⟩
     rw [← hqd2]
     obtain ⟨qd3,hqd3⟩:∃z:Int,z=(l.getD ((k+1)%n) (0,0)).1:=⟨_,rfl⟩
     rw [← hqd3]
     obtain ⟨qd4,hqd4⟩:∃z:Int,z=(l.getD ((k+1)%n) (0,0)).2:=⟨_,rfl⟩
     rw [← hqd4]
     refine zca (X:=Nat×Nat×Nat) (k':=0) (L':=(lb 24 16777215)) (fun (u18_1,u19_1,u20_1)=>([(9,yc (some ⟨u20_1,0,none⟩)),(8,yc (some ⟨u19_1,0,none⟩)),(7,yc (some ⟨u18_1,0,none⟩)),(6,ya yb ((k:Nat):Int)),(36,ya yb ((k:Nat):Int)),(35,ya yb ((n:Nat):Int)),(3,ya yb ((n:Nat):Int)),(0,.slice p n cap)],[boxA u20_1 30 [ya yb qd1,ya yb qd2],boxA u19_1 30 [ya yb qd3,ya yb qd4],boxA u18_1 30 [ya yb ((l.getD k (0,0)).1),ya yb ((l.getD k (0,0)).2)]],[],[slF (rI2 .i64) p cap l])) ?_ (fun hD0=> ?_)
     ·
      rintro ⟨u18_1,u19_1,u20_1⟩
      dsimp only
      refine zW kr ?_
      subst hqd1 hqd2 hqd3 hqd4
      refine ze<|zh<|zGa (X:=Unit) (fun x=>True) (fun x=>[(66,.bool (decide ((Pg.onS (((l.getD k (0,0)).1),((l.getD k (0,0)).2)) (((l.getD ((k+1)%n) (0,0)).1),((l.getD ((k+1)%n) (0,0)).2)) (((l.getD ((k+2)%n) (0,0)).1),((l.getD ((k+2)%n) (0,0)).2)))∨(Pg.onS (((l.getD ((k+1)%n) (0,0)).1),((l.getD ((k+1)%n) (0,0)).2)) (((l.getD ((k+2)%n) (0,0)).1),((l.getD ((k+2)%n) (0,0)).2)) (((l.getD k (0,0)).1),((l.getD k (0,0)).2)))))),(8,yc (some ⟨u19_1,0,none⟩)),(7,yc (some ⟨u18_1,0,none⟩)),(6,ya yb ((k:Nat):Int)),(36,ya yb ((k:Nat):Int)),(35,ya yb ((n:Nat):Int)),(3,ya yb ((n:Nat):Int)),(0,.slice p n cap)]) (fun x=>[boxA u20_1 30 [ya yb ((l.getD ((k+2)%n) (0,0)).1),ya yb ((l.getD ((k+2)%n) (0,0)).2)],boxA u19_1 30 [ya yb ((l.getD ((k+1)%n) (0,0)).1),ya yb ((l.getD ((k+1)%n) (0,0)).2)],boxA u18_1 30 [ya yb ((l.getD k (0,0)).1),ya yb ((l.getD k (0,0)).2)]]) (fun x=>[slF (rI2 .i64) p cap l]) ?_ ?_
      ·
       refine za<|e_ru (zb 2 ty30 rfl rfl (.t2 .nil))<|e_ru (zb 1 ty30 rfl rfl (.t2 .nil))<|e_ru (zb 0 ty30 rfl rfl (.t2 .nil))<|zQ rfl rfl (.c rfl (.c rfl (.c rfl .n))) ce50 (zac (ex:=(l.getD k (0,0)).1) (ey:=(l.getD k (0,0)).2) (fx:=((l.getD ((k+1)%n) (0,0)).1)) (fy:=((l.getD ((k+1)%n) (0,0)).2)) (gx:=((l.getD ((k+2)%n) (0,0)).1)) (gy:=((l.getD ((k+2)%n) (0,0)).2)) (hre:=cbo) (hrf:=cbo) (hrg:=cbo)) (.n)<|zZ rfl rfl (zaa rfl) (fun h17=> ?_) (fun h17=> ?_)
       ·
        refine e_no<|e_no<|e_no<|e_no<|e_p (zp rfl rfl)<|zi ?_
        exact zha () tt9 ((.e rfl (congrArg Value.bool cbu) (.of rfl)):SubM _ _) (ho:=((.of [0,0,0] rfl):PickO _ _ _)) (s0 rfl)
       ·
        refine e_ru (zb 1 ty30 rfl rfl (.t2 .nil))<|e_ru (zb 0 ty30 rfl rfl (.t2 .nil))<|e_ru (zb 2 ty30 rfl rfl (.t2 .nil))<|zQ rfl rfl (.c rfl (.c rfl (.c rfl .n))) ce50 (zac (ex:=((l.getD ((k+1)%n) (0,0)).1)) (ey:=((l.getD ((k+1)%n) (0,0)).2)) (fx:=((l.getD ((k+2)%n) (0,0)).1)) (fy:=((l.getD ((k+2)%n) (0,0)).2)) (gx:=(l.getD k (0,0)).1) (gy:=(l.getD k (0,0)).2) (hre:=cbo) (hrf:=cbo) (hrg:=cbo)) (.n)<|e_p (zp rfl rfl)<|zi ?_
        exact zha () tt9 ((.e rfl (congrArg Value.bool cbu) (.of rfl)):SubM _ _) (ho:=((.of [0,0,0] rfl):PickO _ _ _)) (s0 rfl)
      ·
       rintro ⟨⟩ -
       try dsimp only
       refine zJ rfl (fun hA=> ?_) (fun hA=> ?_)
       ·
        refine zh<|za<|e_p (zd rfl)<|zi<|ze<|zL<|zj<|zy<|zj<|zj<|zy<|zj ?_
        exact zx yF () trivial (zl rfl) (by rw [Pg.ck_two hlm hz1 (fun h=>((Pg.smp_n hn).1 h k om).1 hA)]) (ho:=oN) sN
       ·
        refine zC<|ze<|zh<|za<|e_mv rfl<|e_p (zO (z:=(((k+2):Nat):Int)) rfl rfl (w64 om))<|e_p (zd rfl)<|zi<|ze<|zE<|zra (X:=Nat) (fun x:Nat=>k+2≤x∧∀w,w<x→¬Pg.smB n l k w) (fun x=>[(10,ya yb ((x:Nat):Int)),(8,yc (some ⟨u19_1,0,none⟩)),(7,yc (some ⟨u18_1,0,none⟩)),(6,ya yb ((k:Nat):Int)),(36,ya yb ((k:Nat):Int)),(35,ya yb ((n:Nat):Int)),(3,ya yb ((n:Nat):Int)),(0,.slice p n cap)]) (fun x=>[boxA u20_1 30 [ya yb ((l.getD ((k+2)%n) (0,0)).1),ya yb ((l.getD ((k+2)%n) (0,0)).2)],boxA u19_1 30 [ya yb ((l.getD ((k+1)%n) (0,0)).1),ya yb ((l.getD ((k+1)%n) (0,0)).2)],boxA u18_1 30 [ya yb ((l.getD k (0,0)).1),ya yb ((l.getD k (0,0)).2)]]) (fun x=>[slF (rI2 .i64) p cap l]) (fun x:Nat=>n - x) (k+2) (show k+2≤(k+2)∧∀w,w<(k+2)→¬Pg.smB n l k w from by exact ⟨Nat.le_refl _,fun w hw hb=>by have:=hb.1;omega⟩) (mR rfl) (ho:=((.of [0,0,0] rfl):PickO _ _ _)) (s0 rfl) ?_
        rintro j hJ
        replace hJ:k+2≤j∧∀w,w<j→¬Pg.smB n l k w:=hJ
        try dsimp only
        obtain ⟨hj2,hB2⟩:=hJ
        refine zh<|zh<|za<|e_mv rfl<|e_mv rfl<|e_p (zda rfl rfl)<|zi<|ze<|zJ rfl (fun h18=> ?_) (fun h18=> ?_)
        ·
         have hm3:(j+1)%n<n:=Nat.mod_lt _ om
         obtain ⟨hg3,hg4⟩:yO (l.getD j (0,0))∧yO (l.getD ((j+1)%n) (0,0)):=⟨Pg.Ok.gt hrng om,Pg.Ok.gt hrng (by rw [hn];exact Nat.mod_lt _ om)⟩
         refine zC<|ze<|zh<|zE<|zGa (X:=Unit) (fun x=>True) (fun x=>[(95,.bool (decide ((((((j+1)%n):Nat):Int)≠((k:Nat):Int))∧(Pg.mt (((l.getD k (0,0)).1),((l.getD k (0,0)).2)) (((l.getD ((k+1)%n) (0,0)).1),((l.getD ((k+1)%n) (0,0)).2)) (((l.getD j (0,0)).1),((l.getD j (0,0)).2)) (((l.getD ((j+1)%n) (0,0)).1),((l.getD ((j+1)%n) (0,0)).2)))))),(10,ya yb ((j:Nat):Int)),(8,yc (some ⟨u19_1,0,none⟩)),(7,yc (some ⟨u18_1,0,none⟩)),(6,ya yb ((k:Nat):Int)),(36,ya yb ((k:Nat):Int)),(35,ya yb ((n:Nat):Int)),(3,ya yb ((n:Nat):Int)),(0,.slice p n cap)]) (fun x=>[boxA u20_1 30 [ya yb ((l.getD ((k+2)%n) (0,0)).1),ya yb ((l.getD ((k+2)%n) (0,0)).2)],boxA u19_1 30 [ya yb ((l.getD ((k+1)%n) (0,0)).1),ya yb ((l.getD ((k+1)%n) (0,0)).2)],boxA u18_1 30 [ya yb ((l.getD k (0,0)).1),ya yb ((l.getD k (0,0)).2)]]) (fun x=>[slF (rI2 .i64) p cap l]) ?_ ?_
         ·
          refine zY (OW:=[]) (O:=[boxA u20_1 30 [ya yb ((l.getD ((k+2)%n) (0,0)).1),ya yb ((l.getD ((k+2)%n) (0,0)).2)],boxA u19_1 30 [ya yb ((l.getD ((k+1)%n) (0,0)).1),ya yb ((l.getD ((k+1)%n) (0,0)).2)],boxA u18_1 30 [ya yb ((l.getD k (0,0)).1),ya yb ((l.getD k (0,0)).2)]]) 100000 mixed (.then (.block (.then (.then (.block (.block (.then (.then (.block (.then .ret)))))))))) kr<|e_dm 0 rfl rfl rfl<|e_pv 1 rfl rfl (zO (z:=(((j+1):Nat):Int)) rfl rfl (w64 om))<|e_dm 2 rfl rfl rfl<|e_pv 3 rfl rfl (zza (z:=((((j+1)%n):Nat):Int)) rfl rfl om (remN om om))<|e_dm 4 rfl rfl rfl<|e_pv 5 rfl rfl (zXa rfl rfl)<|zGb 6 rfl rfl kr kr rfl rfl (zaa rfl) (fun h19=> ?_) (fun h19=> ?_)
          ·
           refine e_u 7 rfl rfl (zb 2 ty30 rfl rfl (.t2 .nil))<|e_u 8 rfl rfl (zb 1 ty30 rfl rfl (.t2 .nil))<|e_dm 9 rfl rfl rfl<|e_dm 10 rfl rfl rfl<|zga (x0:=(l.getD j (0,0))) 11 rfl rfl kr kr 0 j rfl yh sz30 rfl rfl rfl cbs rfl rfl (gD (d:=(0,0)) om) (fun b20 o21 hok22=> ?_)
           obtain ⟨hok22x,hok22y⟩:=hok22
           replace hok22x:=zM.1 hok22x
           replace hok22y:=zM.1 hok22y
           refine e_u 12 rfl rfl (zt (j:=0) 0 ty30 rfl rfl rfl (.t2 .nil))<|e_dm 13 rfl rfl rfl<|e_dm 14 rfl rfl rfl<|e_pv 15 rfl rfl (zO (z:=(((j+1):Nat):Int)) rfl rfl (w64 om))<|e_dm 16 rfl rfl rfl<|e_pv 17 rfl rfl (zza (z:=((((j+1)%n):Nat):Int)) rfl rfl om (remN om om))<|zga (x0:=(l.getD ((j+1)%n) (0,0))) 18 rfl rfl kr kr 1 ((j+1)%n) rfl yh sz30 rfl rfl rfl cbs rfl rfl (gD (d:=(0,0)) om) (fun b23 o24 hok25=> ?_)
           obtain ⟨hok25x,hok25y⟩:=hok25
           replace hok25x:=zM.1 hok25x
           replace hok25y:=zM.1 hok25y
           refine e_u 19 rfl rfl (zt (j:=0) 0 ty30 rfl rfl rfl (.t2 .nil))<|e_one 20 (zta rfl rfl rfl rfl (.c rfl (.c rfl (.c rfl (.c rfl .n)))) ce51 (zAf (ex:=(l.getD k (0,0)).1) (ey:=(l.getD k (0,0)).2) (fx:=((l.getD ((k+1)%n) (0,0)).1)) (fy:=((l.getD ((k+1)%n) (0,0)).2)) (gx:=(l.getD j (0,0)).1) (gy:=(l.getD j (0,0)).2) (hx:=(l.getD ((j+1)%n) (0,0)).1) (hy:=(l.getD ((j+1)%n) (0,0)).2) (hre:=cbo) (hrf:=cbo) (hrg:=cbo) (hrh:=cbo)) (.n) ?_)
           refine e_pv 21 rfl rfl (zp rfl rfl)<|zW kr ?_
           exact zha () tt9 ((.e rfl (congrArg Value.bool cbu) (.of rfl)):SubM _ _) (ho:=((.of [0,0,0] rfl):PickO _ _ _)) ((.c (j:=2) rfl .n):SelR _ _ _)
          ·
           refine e_skip 7 rfl rfl<|e_skip 8 rfl rfl<|e_skip 9 rfl rfl<|e_skip 10 rfl rfl<|e_skip 11 rfl rfl<|e_skip 12 rfl rfl<|e_skip 13 rfl rfl<|e_skip 14 rfl rfl<|e_skip 15 rfl rfl<|e_skip 16 rfl rfl<|e_skip 17 rfl rfl<|e_skip 18 rfl rfl<|e_skip 19 rfl rfl<|e_skip 20 rfl rfl<|e_pv 21 rfl rfl (zp rfl rfl)<|zW kr ?_
           exact zha () tt9 ((.e rfl (congrArg Value.bool cbu) (.of rfl)):SubM _ _) (ho:=((.of [0,0,0] rfl):PickO _ _ _)) (s0 rfl)
         ·
          rintro ⟨⟩ -
          try dsimp only
          refine zJ rfl (fun hB=> ?_) (fun hB=> ?_)
          ·
           refine zh<|za<|e_p (zd rfl)<|zi<|ze<|zL<|zy<|zj<|zj<|zy<|zy<|zj<|zj<|zy<|zj ?_
           exact zx yF () trivial (zl rfl) (by rw [Pg.ck_two hlm hz1 (fun h=>((Pg.smp_n hn).1 h k om).2 j om ⟨by omega,by omega,hB.2⟩)]) (ho:=oN) sN
          ·
           refine zC<|zT<|ze<|za<|e_mv rfl<|e_p (zO (z:=(((j+1):Nat):Int)) rfl rfl (w64 om))<|e_p (zd rfl)<|zi<|zla (j+1) (show k+2≤(j+1)∧∀w,w<(j+1)→¬Pg.smB n l k w from by exact ⟨by omega,yw hB2 (fun hb=>hB ⟨by have:=hb.2.1;omega,hb.2.2⟩)⟩) (by show n - (j+1)<n - j;omega) (mR rfl) (ho:=((.of [0,0,0] rfl):PickO _ _ _)) (s0 rfl)
        ·
         refine zqa<|zk<|zk<|zD<|zT<|ze<|za<|e_p (zO (z:=(((k+1):Nat):Int)) rfl rfl (w64 om))<|e_mv rfl<|zi<|zla (k+1) (show (k+1)≤n∧∀w,w<(k+1)→Pg.smI n l w from by exact ⟨by omega,yw hall ⟨hA,fun w hw=>hB2 w om⟩⟩) (by show n - (k+1)<n - k;omega) (mR rfl) (ho:=oN) (s0 rfl)
     refine zca (X:=Nat×Nat×Nat) (k':=1) (L':=(lb 24 8388607)) (fun (u18_1,u19_1,u20_1)=>([(9,yc (some ⟨u20_1,0,none⟩)),(8,yc (some ⟨u19_1,0,none⟩)),(7,yc (some ⟨u18_1,0,none⟩)),(56,.agg #[ya yb qd1,ya yb qd2]),(6,ya yb ((k:Nat):Int)),(36,ya yb ((k:Nat):Int)),(35,ya yb ((n:Nat):Int)),(3,ya yb ((n:Nat):Int)),(0,.slice p n cap)],[boxA u19_1 30 [ya yb qd3,ya yb qd4],boxA u18_1 30 [ya yb ((l.getD k (0,0)).1),ya yb ((l.getD k (0,0)).2)],boxA u20_1 30 [ya yb 0,ya yb 0]],[],[slF (rI2 .i64) p cap l])) ?_ (fun hD1=> ?_)
     ·
      rintro ⟨u18_1,u19_1,u20_1⟩
      dsimp only
      refine zya 23 kr ?_
      ·
       refine zPb (zfa (i:=2) rfl)<|zr kr rfl rfl rfl rfl rfl sz30 rfl (.t2 .nil) ?_
       exact zH (hD0 (u18_1,u19_1,u20_1)) kr (mR rfl) .rfl .rfl (s0 rfl)
     refine zca (X:=Nat×Nat×Nat) (k':=2) (L':=(lb 24 4194303)) (fun (u18_1,u19_1,u20_1)=>([(9,yc (some ⟨u20_1,0,none⟩)),(8,yc (some ⟨u19_1,0,none⟩)),(7,yc (some ⟨u18_1,0,none⟩)),(56,.agg #[ya yb qd1,ya yb qd2]),(49,.agg #[ya yb qd3,ya yb qd4]),(6,ya yb ((k:Nat):Int)),(36,ya yb ((k:Nat):Int)),(35,ya yb ((n:Nat):Int)),(3,ya yb ((n:Nat):Int)),(0,.slice p n cap)],[boxA u18_1 30 [ya yb ((l.getD k (0,0)).1),ya yb ((l.getD k (0,0)).2)],boxA u20_1 30 [ya yb 0,ya yb 0],boxA u19_1 30 [ya yb 0,ya yb 0]],[],[slF (rI2 .i64) p cap l])) ?_ (fun hD2=> ?_)
     ·
      rintro ⟨u18_1,u19_1,u20_1⟩
      dsimp only
      refine zya 22 kr ?_
      ·
       refine zPb (zfa (i:=2) rfl)<|zr kr rfl rfl rfl rfl rfl sz30 rfl (.t2 .nil) ?_
       exact zH (hD1 (u18_1,u19_1,u20_1)) kr (mR rfl) .rfl .rfl (s0 rfl)
     refine zca (X:=Nat×Nat×Nat) (k':=3) (L':=(lb 24 2097151)) (fun (u18_1,u19_1,u20_1)=>([(9,yc (some ⟨u20_1,0,none⟩)),(8,yc (some ⟨u19_1,0,none⟩)),(7,yc (some ⟨u18_1,0,none⟩)),(56,.agg #[ya yb qd1,ya yb qd2]),(49,.agg #[ya yb qd3,ya yb qd4]),(42,.agg #[ya yb ((l.getD k (0,0)).1),ya yb ((l.getD k (0,0)).2)]),(6,ya yb ((k:Nat):Int)),(36,ya yb ((k:Nat):Int)),(35,ya yb ((n:Nat):Int)),(3,ya yb ((n:Nat):Int)),(0,.slice p n cap)],[boxA u20_1 30 [ya yb 0,ya yb 0],boxA u19_1 30 [ya yb 0,ya yb 0],boxA u18_1 30 [ya yb 0,ya yb 0]],[],[slF (rI2 .i64) p cap l])) ?_ (fun hD3=> ?_)
     ·
      rintro ⟨u18_1,u19_1,u20_1⟩
      dsimp only
      refine zya 21 kr ?_
      ·
       refine zPb (zfa (i:=2) rfl)<|zr kr rfl rfl rfl rfl rfl sz30 rfl (.t2 .nil) ?_
       exact zH (hD2 (u18_1,u19_1,u20_1)) kr (mR rfl) .rfl .rfl (s0 rfl)
     refine zca (X:=Nat×Nat) (k':=4) (L':=(lb 24 1048575)) (fun (u18_1,u19_1)=>([(8,yc (some ⟨u19_1,0,none⟩)),(7,yc (some ⟨u18_1,0,none⟩)),(56,.agg #[ya yb qd1,ya yb qd2]),(49,.agg #[ya yb qd3,ya yb qd4]),(42,.agg #[ya yb ((l.getD k (0,0)).1),ya yb ((l.getD k (0,0)).2)]),(6,ya yb ((k:Nat):Int)),(36,ya yb ((k:Nat):Int)),(35,ya yb ((n:Nat):Int)),(3,ya yb ((n:Nat):Int)),(0,.slice p n cap)],[boxA u19_1 30 [ya yb 0,ya yb 0],boxA u18_1 30 [ya yb 0,ya yb 0]],[],[slF (rI2 .i64) p cap l])) ?_ (fun hD4=> ?_)
     ·
      rintro ⟨u18_1,u19_1⟩
      dsimp only
      refine zya 20 kr ?_
      ·
       refine zma rfl rfl rfl rfl (zn zr30 rfl) (fun u20_1 _=> ?_)
       exact zH (hD3 (u18_1,u19_1,u20_1)) kr (mR rfl) .rfl .rfl (s0 rfl)
     refine zca (X:=Nat×Nat) (k':=4) (L':=(lb 24 1572863)) (fun (u18_1,u20_1)=>([(9,yc (some ⟨u20_1,0,none⟩)),(7,yc (some ⟨u18_1,0,none⟩)),(56,.agg #[ya yb qd1,ya yb qd2]),(49,.agg #[ya yb qd3,ya yb qd4]),(42,.agg #[ya yb ((l.getD k (0,0)).1),ya yb ((l.getD k (0,0)).2)]),(6,ya yb ((k:Nat):Int)),(36,ya yb ((k:Nat):Int)),(35,ya yb ((n:Nat):Int)),(3,ya yb ((n:Nat):Int)),(0,.slice p n cap)],[boxA u20_1 30 [ya yb 0,ya yb 0],boxA u18_1 30 [ya yb 0,ya yb 0]],[],[slF (rI2 .i64) p cap l])) ?_ (fun hD5=> ?_)
     ·
      rintro ⟨u18_1,u20_1⟩
      dsimp only
      refine zya 19 kr ?_
      ·
       refine zma rfl rfl rfl rfl (zn zr30 rfl) (fun u19_1 _=> ?_)
       exact zH (hD3 (u18_1,u19_1,u20_1)) kr (mR rfl) (zJa 1 rfl (zJa 0 rfl (zJa 0 rfl .nil))) .rfl (s0 rfl)
     refine zca (X:=Nat×Nat) (k':=4) (L':=(lb 24 1835007)) (fun (u19_1,u20_1)=>([(9,yc (some ⟨u20_1,0,none⟩)),(8,yc (some ⟨u19_1,0,none⟩)),(56,.agg #[ya yb qd1,ya yb qd2]),(49,.agg #[ya yb qd3,ya yb qd4]),(42,.agg #[ya yb ((l.getD k (0,0)).1),ya yb ((l.getD k (0,0)).2)]),(6,ya yb ((k:Nat):Int)),(36,ya yb ((k:Nat):Int)),(35,ya yb ((n:Nat):Int)),(3,ya yb ((n:Nat):Int)),(0,.slice p n cap)],[boxA u20_1 30 [ya yb 0,ya yb 0],boxA u19_1 30 [ya yb 0,ya yb 0]],[],[slF (rI2 .i64) p cap l])) ?_ (fun hD6=> ?_)
     ·
      rintro ⟨u19_1,u20_1⟩
      dsimp only
      refine zya 18 kr ?_
      ·
       refine zma rfl rfl rfl rfl (zn zr30 rfl) (fun u18_1 _=> ?_)
       exact zH (hD3 (u18_1,u19_1,u20_1)) kr (mR rfl) (zJa 1 rfl (zJa 1 rfl (zJa 0 rfl .nil))) .rfl (s0 rfl)
     refine zca (X:=Nat) (k':=5) (L':=(lb 24 524287)) (fun u18_1=>([(7,yc (some ⟨u18_1,0,none⟩)),(56,.agg #[ya yb qd1,ya yb qd2]),(49,.agg #[ya yb qd3,ya yb qd4]),(42,.agg #[ya yb ((l.getD k (0,0)).1),ya yb ((l.getD k (0,0)).2)]),(6,ya yb ((k:Nat):Int)),(36,ya yb ((k:Nat):Int)),(35,ya yb ((n:Nat):Int)),(3,ya yb ((n:Nat):Int)),(0,.slice p n cap)],[boxA u18_1 30 [ya yb 0,ya yb 0]],[],[slF (rI2 .i64) p cap l])) ?_ (fun hD7=> ?_)
     ·
      rintro u18_1
      dsimp only
      refine zdb 19 20 kr ?_ ?_
      ·
       refine zma rfl rfl rfl rfl (zn zr30 rfl) (fun u19_1 _=> ?_)
       exact zH (hD4 (u18_1,u19_1)) kr (mR rfl) .rfl .rfl (s0 rfl)
      ·
       refine zma rfl rfl rfl rfl (zn zr30 rfl) (fun u20_1 _=> ?_)
       exact zH (hD5 (u18_1,u20_1)) kr (mR rfl) .rfl .rfl (s0 rfl)
     refine zca (X:=Nat) (k':=5) (L':=(lb 24 786431)) (fun u19_1=>([(8,yc (some ⟨u19_1,0,none⟩)),(56,.agg #[ya yb qd1,ya yb qd2]),(49,.agg #[ya yb qd3,ya yb qd4]),(42,.agg #[ya yb ((l.getD k (0,0)).1),ya yb ((l.getD k (0,0)).2)]),(6,ya yb ((k:Nat):Int)),(36,ya yb ((k:Nat):Int)),(35,ya yb ((n:Nat):Int)),(3,ya yb ((n:Nat):Int)),(0,.slice p n cap)],[boxA u19_1 30 [ya yb 0,ya yb 0]],[],[slF (rI2 .i64) p cap l])) ?_ (fun hD8=> ?_)
     ·
      rintro u19_1
      dsimp only
      refine zdb 18 20 kr ?_ ?_
      ·
       refine zma rfl rfl rfl rfl (zn zr30 rfl) (fun u18_1 _=> ?_)
       exact zH (hD4 (u18_1,u19_1)) kr (mR rfl) (zJa 1 rfl (zJa 0 rfl .nil)) .rfl (s0 rfl)
      ·
       refine zma rfl rfl rfl rfl (zn zr30 rfl) (fun u20_1 _=> ?_)
       exact zH (hD6 (u19_1,u20_1)) kr (mR rfl) .rfl .rfl (s0 rfl)
     refine zca (X:=Nat) (k':=5) (L':=(lb 24 1310719)) (fun u20_1=>([(9,yc (some ⟨u20_1,0,none⟩)),(56,.agg #[ya yb qd1,ya yb qd2]),(49,.agg #[ya yb qd3,ya yb qd4]),(42,.agg #[ya yb ((l.getD k (0,0)).1),ya yb ((l.getD k (0,0)).2)]),(6,ya yb ((k:Nat):Int)),(36,ya yb ((k:Nat):Int)),(35,ya yb ((n:Nat):Int)),(3,ya yb ((n:Nat):Int)),(0,.slice p n cap)],[boxA u20_1 30 [ya yb 0,ya yb 0]],[],[slF (rI2 .i64) p cap l])) ?_ (fun hD9=> ?_)
     ·
      rintro u20_1
      dsimp only
      refine zdb 18 19 kr ?_ ?_
      ·
       refine zma rfl rfl rfl rfl (zn zr30 rfl) (fun u18_1 _=> ?_)
       exact zH (hD5 (u18_1,u20_1)) kr (mR rfl) (zJa 1 rfl (zJa 0 rfl .nil)) .rfl (s0 rfl)
      ·
       refine zma rfl rfl rfl rfl (zn zr30 rfl) (fun u19_1 _=> ?_)
       exact zH (hD6 (u19_1,u20_1)) kr (mR rfl) (zJa 1 rfl (zJa 0 rfl .nil)) .rfl (s0 rfl)
     refine zsd 18 19 20 kr ?_ ?_ ?_
     ·
      refine zma rfl rfl rfl rfl (zn zr30 rfl) (fun u18_1 _=> ?_)
      exact zH (hD7 u18_1) kr (mR rfl) .rfl .rfl (s0 rfl)
     ·
      refine zma rfl rfl rfl rfl (zn zr30 rfl) (fun u19_1 _=> ?_)
      exact zH (hD8 u19_1) kr (mR rfl) .rfl .rfl (s0 rfl)
     ·
      refine zma rfl rfl rfl rfl (zn zr30 rfl) (fun u20_1 _=> ?_)
      exact zH (hD9 u20_1) kr (mR rfl) .rfl .rfl (s0 rfl)
    ·
     refine zqa<|zk<|zk<|zD<|ze<|zh<|za<|e_p (zd rfl)<|zi<|ze<|zL ?_
     exact zx yF () trivial (zl rfl) (by rw [Pg.ck_ok hlm hz1 ((Pg.smp_n hn).2 (fun w hw=>hall w om))]) (ho:=oN) sN
theorem zfd {p:Option Addr} {n:Nat} {cap:Nat} {l:List Pg.P2} (hn:l.length=n) (h64:n≤64) (hrng:∀x∈l,yO x):Con yk 47 [.slice p n cap] [] [slF (rI2 .i64) p cap l] (Y:=Unit) (fun y=>True) (fun y=> ya yb (Pg.db l)) (fun y=>[]) (fun y=>[]):=by
 refine zo Tryz.func47 rfl rfl rfl (fun c=> ?_)
 show RunC _ _ _ _ _ [(0,.slice p n cap)] [] [slF (rI2 .i64) p cap l]
 refine zea 0 rfl (fun hL0=> ?_)
 refine zh<|za<|e_p (zd rfl)<|zi<|ze<|zh<|za<|e_p (zd rfl)<|zi<|ze<|zh<|zh<|za<|e_mv rfl<|e_p (zR yh rfl)<|e_mv rfl<|zi<|ze<|zE<|zra (X:=Nat) (fun x:Nat=>x≤n) (fun x=>[(3,ya yb (Pg.dbN n l x)),(9,ya yb ((x:Nat):Int)),(8,ya yb ((n:Nat):Int)),(7,.slice p n cap),(2,ya yb 0),(0,.slice p n cap)]) (fun x=>[]) (fun x=>[slF (rI2 .i64) p cap l]) (fun x:Nat=>n - x) 0 (show 0≤n from by exact Nat.zero_le _) ((.e rfl cgs (.e rfl cgs (.of rfl))):SubM _ _) (ho:=oN) (s0 rfl) ?_
 rintro k hI
 replace hI:k≤n:=hI
 try dsimp only
 refine zh<|za<|e_p (zda rfl rfl)<|zi<|ze<|zh<|zJ rfl (fun h1=> ?_) (fun h1=> ?_)
 ·
  have hm1:(k+1)%n<n:=Nat.mod_lt _ om
  have hg0:yO (l.getD k (0,0)):=Pg.Ok.gt hrng om
  have hg1:yO (l.getD ((k+1)%n) (0,0)):=Pg.Ok.gt hrng om
  obtain ⟨hp1,hp2⟩:=Pg.ab hg0 hg1
  have hb1:=Pg.dbN_b hn hrng (i:=k) om
  refine zC<|ze<|zh<|zE<|zh<|za<|e_mv rfl<|zX (x0:=(l.getD k (0,0))) 0 k rfl yh sz30 rfl rfl rfl cbs rfl rfl (gD (d:=(0,0)) om) (fun b2 o3 hok4=> ?_)
  obtain ⟨hok4x,hok4y⟩:=hok4
  replace hok4x:=zM.1 hok4x
  replace hok4y:=zM.1 hok4y
  refine e_ru (zt (j:=0) 0 ty30 rfl rfl rfl (.t2 .nil))<|zP rfl rfl (zn zr30 rfl) (fun b5=> ?_)
  refine e_p (zd rfl)<|zm 0 rfl rfl rfl rfl rfl sz30 rfl (.t2 .nil) .z<|zi<|ze<|zh<|za<|e_mv rfl<|e_mv rfl<|e_p (zO (z:=(((k+1):Nat):Int)) rfl rfl (w64 om))<|e_mv rfl<|e_p (zR yh rfl)<|e_p (zza (z:=((((k+1)%n):Nat):Int)) rfl rfl om (remN om om))<|zX (x0:=(l.getD ((k+1)%n) (0,0))) 1 ((k+1)%n) rfl yh sz30 rfl rfl rfl cbs rfl rfl (gD (d:=(0,0)) om) (fun b6 o7 hok8=> ?_)
  obtain ⟨hok8x,hok8y⟩:=hok8
  replace hok8x:=zM.1 hok8x
  replace hok8y:=zM.1 hok8y
  refine e_ru (zt (j:=0) 0 ty30 rfl rfl rfl (.t2 .nil))<|zP rfl rfl (zn zr30 rfl) (fun b9=> ?_)
  refine zm 0 rfl rfl rfl rfl rfl sz30 rfl (.t2 .nil) .z<|zi<|ze<|za<|e_mv rfl<|e_p (zf yl rfl sz3 rfl rfl)<|e_ru (zg 1 ty3 rfl rfl rfl)<|e_p (zf yl rfl sz3 rfl rfl)<|e_ru (zg 0 ty3 rfl rfl rfl)<|e_p (zEa (z:=((l.getD k (0,0)).1*(l.getD ((k+1)%n) (0,0)).2)) rfl rfl (w64 om))<|e_p (zf yl rfl sz3 rfl rfl)<|e_ru (zg 0 ty3 rfl rfl rfl)<|e_p (zf yl rfl sz3 rfl rfl)<|e_ru (zg 1 ty3 rfl rfl rfl)<|e_p (zEa (z:=((l.getD ((k+1)%n) (0,0)).1*(l.getD k (0,0)).2)) rfl rfl (w64 om))<|e_p (zna (z:=(((l.getD k (0,0)).1*(l.getD ((k+1)%n) (0,0)).2) - ((l.getD ((k+1)%n) (0,0)).1*(l.getD k (0,0)).2))) rfl rfl (w64 om))<|e_p (zO (z:=((Pg.dbN n l k)+(((l.getD k (0,0)).1*(l.getD ((k+1)%n) (0,0)).2) - ((l.getD ((k+1)%n) (0,0)).1*(l.getD k (0,0)).2)))) rfl rfl (w64 om))<|e_p (zd rfl)<|zi<|zT<|ze<|za<|e_p (zO (z:=(((k+1):Nat):Int)) rfl rfl (w64 om))<|e_mv rfl<|zi<|zla (k+1) (show (k+1)≤n from by show k+1≤n;omega) (by show n - (k+1)<n - k;omega) ((.e rfl cgs (.of rfl)):SubM _ _) (ho:=oN) ((.c (j:=2) rfl .n):SelR _ _ _)
 ·
  refine zqa<|zk<|zk<|zD<|ze<|zh<|za<|e_mv rfl<|e_p (zd rfl)<|zi<|ze<|zL ?_
  exact zx Tryz.results47 () trivial (zl rfl) (by rw [show k=n by omega,Pg.db,hn]) (ho:=oN) sN
theorem zgg {p:Option Addr} {n:Nat} {cap:Nat} {l:List Pg.P2} (hn:l.length=n):Con yk 13 [.slice p n cap] [] [slF (rI2 .i64) p cap l] (Y:=Unit) (fun y=>True) (fun y=> .tuple #[ya yb (Pg.arV l),ya yb (Pg.arC l)]) (fun y=>[]) (fun y=>[]):=by
 refine zo Tryz.func13 rfl rfl rfl (fun c=> ?_)
 show RunC _ _ _ _ _ [(0,.slice p n cap)] [] [slF (rI2 .i64) p cap l]
 refine zea 0 rfl (fun hL0=> ?_)
 refine zh<|za<|e_p (zd rfl)<|e_p (zd rfl)<|zi<|ze<|zh<|zh<|za<|e_mv rfl<|e_p (zR yh rfl)<|e_p (zDa rfl rfl)<|zi<|ze<|zJ rfl (fun hlim=> ?_) (fun hlim=> ?_)
 ·
  refine zh<|za<|e_p (zd rfl)<|e_p (zd rfl)<|zi<|ze<|zL<|zj ?_
  obtain ⟨hv1,hv2⟩:=Pg.ar_lim (l:=l) om
  exact zBa Tryz.results13 () trivial (zl rfl) (zl rfl) (by rw [hv1,hv2]) (ho:=oN) sN
 ·
  refine zC<|ze<|zh<|zh<|za<|e_mv rfl<|zQ rfl rfl (.c rfl (.c rfl .n)) ce45 (zNf (p:=p) (n:=n) (cap:=cap) (l:=l) (hn:=ass)) (.c (j:=0) rfl .n)<|zi<|ze<|zxb rfl (fun hfar=> ?_) (fun hfar=> ?_)
  ·
   refine zh<|za<|e_p (zd rfl)<|e_p (zd rfl)<|zi<|ze<|zL<|zj ?_
   obtain ⟨hv1,hv2⟩:=Pg.ar_far (l:=l) om hfar
   exact zBa Tryz.results13 () trivial (zl rfl) (zl rfl) (by rw [hv1,hv2]) (ho:=oN) sN
  ·
   have hrng:=Pg.any_far (l:=l) (by rw [hfar];decide)
   refine zC<|ze<|zh<|za<|e_mv rfl<|zQ rfl rfl (.c rfl .n) ce47 (zfd (p:=p) (n:=n) (cap:=cap) (l:=l) (hn:=ass) (h64:=cbo) (hrng:=cbo)) (.c (j:=0) rfl .n)<|e_p (zd rfl)<|e_p (zd rfl)<|zi<|ze<|zL ?_
   obtain ⟨hv1,hv2⟩:=Pg.ar_ok (l:=l) om (by rw [hfar];decide)
   exact zBa Tryz.results13 () trivial (zl rfl) (zl rfl) (by rw [hv1,hv2]) (ho:=oN) sN
end Go.Proofs.YtjcpbhlijoigfaaGreat.Sp
namespace Go.Proofs.YtjcpbhlijoigfaaGreat.Sp
open Go
set_option linter.unusedVariables false
set_option maxRecDepth 100000
set_option maxHeartbeats 8000000
theorem zpd {p:Option Addr} {n:Nat} {cap:Nat} {l:List Pg.P2} {hx:Int} {hy:Int} (hn:l.length=n) (hwhx: -9223372036854775808≤hx∧hx≤9223372036854775807) (hwhy: -9223372036854775808≤hy∧hy≤9223372036854775807):Con yk 17 [.slice p n cap,.agg #[ya yb hx,ya yb hy]] [] [slF (rI2 .i64) p cap l] (Y:=Unit) (fun y=>True) (fun y=> .tuple #[ya yb (Pg.isV l (hx,hy)),ya yb (Pg.isC l (hx,hy))]) (fun y=>[]) (fun y=>[]):=by
 refine zo Tryz.func17 rfl rfl rfl (fun c=> ?_)
 show RunC _ _ _ _ _ [(0,.slice p n cap),(1,.agg #[ya yb hx,ya yb hy])] [] [slF (rI2 .i64) p cap l]
 refine zea 0 rfl (fun hL0=> ?_)
 refine zh<|za<|zP rfl rfl (zS rfl rfl) (fun b1=> ?_)
 refine e_p (zd rfl)<|e_p (zd rfl)<|zi<|ze<|zh<|zh<|za<|e_mv rfl<|zQ rfl rfl (.c rfl .n) ce15 (zed (p:=p) (n:=n) (cap:=cap) (l:=l) (hn:=ass)) (.c (j:=0) rfl .n)<|e_p (zd rfl)<|zi<|ze<|zh<|za<|e_mv rfl<|e_p (zXa rfl rfl)<|zi<|ze<|zJ rfl (fun hbad=> ?_) (fun hbad=> ?_)
 ·
  refine zh<|za<|e_mv rfl<|e_p (zd rfl)<|e_p (zd rfl)<|zi<|ze<|zL<|zj ?_
  obtain ⟨hv1,hv2⟩:=Pg.is_bad (q:=(hx,hy)) hbad
  exact zBa yK () trivial (zl rfl) (zl rfl) (by rw [hv1,hv2]) (ho:=oN) sN
 ·
  have hz:=Decidable.not_not.1 hbad
  have hok:=Pg.ok hz
  have hrng:=hok.rng
  have h64:=hok.n64
  refine zC<|ze<|zh<|zh<|za<|e_ru (zb 0 ty30 rfl rfl (.t2 .nil))<|zQ rfl rfl (.c rfl .n) ce46 (zlc (ex:=hx) (ey:=hy) (hwex:=ass) (hwey:=ass)) (.n)<|zi<|ze<|zxb rfl (fun hfar=> ?_) (fun hfar=> ?_)
  ·
   refine zh<|za<|e_p (zd rfl)<|e_p (zd rfl)<|zi<|ze<|zL<|zj ?_
   obtain ⟨hv1,hv2⟩:=Pg.is_far hz hfar
   exact zBa yK () trivial (zl rfl) (zl rfl) (by rw [hv1,hv2]) (ho:=oN) sN
  ·
   have hrh:=Pg.far_no' hfar
   refine zC<|ze<|zh<|za<|e_p (zd rfl)<|zi<|ze<|zh<|zh<|za<|e_mv rfl<|e_p (zR yh rfl)<|e_mv rfl<|zi<|ze<|zE<|zra (X:=Nat) (fun x:Nat=>x≤n∧∀w,w<x→¬Pg.onS (l.getD w (0,0)) (l.getD ((w+1)%n) (0,0)) (hx,hy)) (fun x=>[(7,ya yb (Pg.inN n l (hx,hy) x)),(20,ya yb ((x:Nat):Int)),(19,ya yb ((n:Nat):Int)),(18,.slice p n cap),(3,yc (some ⟨b1,0,none⟩)),(0,.slice p n cap)]) (fun x=>[boxA b1 30 [ya yb hx,ya yb hy]]) (fun x=>[slF (rI2 .i64) p cap l]) (fun x:Nat=>n - x) 0 (show 0≤n∧∀w,w<0→¬Pg.onS (l.getD w (0,0)) (l.getD ((w+1)%n) (0,0)) (hx,hy) from by exact ⟨Nat.zero_le _,fun w h=>by omega⟩) ((.e rfl cgs (.e rfl cgs (.of rfl))):SubM _ _) (ho:=(o0 rfl)) (s0 rfl) ?_
   rintro k hI
   replace hI:k≤n∧∀w,w<k→¬Pg.onS (l.getD w (0,0)) (l.getD ((w+1)%n) (0,0)) (hx,hy):=hI
   try dsimp only
   obtain ⟨hk,hall⟩:=hI
   refine zh<|za<|e_p (zda rfl rfl)<|zi<|ze<|zh<|zJ rfl (fun h2=> ?_) (fun h2=> ?_)
   ·
    have hm1:(k+1)%n<n:=Nat.mod_lt _ om
    have hg0:yO (l.getD k (0,0)):=Pg.Ok.gt hrng om
    have hg1:yO (l.getD ((k+1)%n) (0,0)):=Pg.Ok.gt hrng om
    have hi1:=Pg.inN_rng n l (hx,hy) k
    refine zC<|ze<|zh<|zE<|zh<|za<|e_mv rfl<|zX (x0:=(l.getD k (0,0))) 0 k rfl yh sz30 rfl rfl rfl cbs rfl rfl (gD (d:=(0,0)) om) (fun b3 o4 hok5=> ?_)
    obtain ⟨hok5x,hok5y⟩:=hok5
    replace hok5x:=zM.1 hok5x
    replace hok5y:=zM.1 hok5y
    refine e_ru (zt (j:=0) 0 ty30 rfl rfl rfl (.t2 .nil))<|zP rfl rfl (zn zr30 rfl) (fun b6=> ?_)
    refine e_p (zd rfl)<|zm 0 rfl rfl rfl rfl rfl sz30 rfl (.t2 .nil) .z<|zi<|ze<|zh<|za<|e_mv rfl<|e_mv rfl<|e_p (zO (z:=(((k+1):Nat):Int)) rfl rfl (w64 om))<|e_mv rfl<|e_p (zR yh rfl)<|e_p (zza (z:=((((k+1)%n):Nat):Int)) rfl rfl om (remN om om))<|zX (x0:=(l.getD ((k+1)%n) (0,0))) 1 ((k+1)%n) rfl yh sz30 rfl rfl rfl cbs rfl rfl (gD (d:=(0,0)) om) (fun b7 o8 hok9=> ?_)
    obtain ⟨hok9x,hok9y⟩:=hok9
    replace hok9x:=zM.1 hok9x
    replace hok9y:=zM.1 hok9y
    refine e_ru (zt (j:=0) 0 ty30 rfl rfl rfl (.t2 .nil))<|zP rfl rfl (zn zr30 rfl) (fun b10=> ?_)
    refine zm 0 rfl rfl rfl rfl rfl sz30 rfl (.t2 .nil) .z<|zi<|ze<|zh<|zh<|za<|e_ru (zb 1 ty30 rfl rfl (.t2 .nil))<|e_ru (zb 0 ty30 rfl rfl (.t2 .nil))<|e_ru (zb 2 ty30 rfl rfl (.t2 .nil))<|zQ rfl rfl (.c rfl (.c rfl (.c rfl .n))) ce50 (zac (ex:=(l.getD k (0,0)).1) (ey:=(l.getD k (0,0)).2) (fx:=(l.getD ((k+1)%n) (0,0)).1) (fy:=(l.getD ((k+1)%n) (0,0)).2) (gx:=hx) (gy:=hy) (hre:=cbo) (hrf:=cbo) (hrg:=cbo)) (.n)<|zi<|ze<|zJ rfl (fun hon=> ?_) (fun hon=> ?_)
    ·
     refine zh<|za<|e_p (zd rfl)<|e_p (zd rfl)<|zi<|ze<|zL<|zj<|zy<|zj<|zj<|zy<|zj ?_
     obtain ⟨hv1,hv2⟩:=Pg.is_ok (q:=(hx,hy)) hz (by rw [hfar];decide)
     exact zBa yK () trivial (zl rfl) (zl rfl) (by rw [hv1,hv2,Pg.ins_on hn (i:=k) om hon]) (ho:=oN) sN
    ·
     refine zC<|ze<|zh<|zh<|za<|e_p (zf yl rfl sz3 rfl rfl)<|e_ru (zg 1 ty3 rfl rfl rfl)<|e_p (zf yl rfl sz3 rfl rfl)<|e_ru (zg 0 ty3 rfl rfl rfl)<|e_p (zDa rfl rfl)<|zi<|ze<|zJ rfl (fun hsw=> ?_) (fun hsw=> ?_)
     ·
      refine za<|e_ru (zb 0 ty30 rfl rfl (.t2 .nil))<|e_ru (zb 1 ty30 rfl rfl (.t2 .nil))<|zm 1 rfl rfl rfl rfl rfl sz30 rfl (.t2 .nil) (.s .z)<|zm 0 rfl rfl rfl rfl rfl sz30 rfl (.t2 .nil) .z<|zi<|ze<|zGa (X:=Unit) (fun x=>True) (fun x=>[(62,.bool (decide ((((l.getD ((k+1)%n) (0,0)).2≤hy)∧(hy<(l.getD k (0,0)).2))∧(0<(Pg.crs (((l.getD ((k+1)%n) (0,0)).1),((l.getD ((k+1)%n) (0,0)).2)) (((l.getD k (0,0)).1),((l.getD k (0,0)).2)) (hx,hy)).sign)))),(7,ya yb (Pg.inN n l (hx,hy) k)),(20,ya yb ((k:Nat):Int)),(19,ya yb ((n:Nat):Int)),(18,.slice p n cap),(3,yc (some ⟨b1,0,none⟩)),(0,.slice p n cap)]) (fun x=>[boxA b10 30 [ya yb ((l.getD k (0,0)).1),ya yb ((l.getD k (0,0)).2)],boxA b6 30 [ya yb ((l.getD ((k+1)%n) (0,0)).1),ya yb ((l.getD ((k+1)%n) (0,0)).2)],boxA b1 30 [ya yb hx,ya yb hy]]) (fun x=>[atF b7 o8 [ya yb ((l.getD ((k+1)%n) (0,0)).1),ya yb ((l.getD ((k+1)%n) (0,0)).2)],atF b3 o4 [ya yb ((l.getD k (0,0)).1),ya yb ((l.getD k (0,0)).2)],slF (rI2 .i64) p cap l]) ?_ ?_
      ·
       refine za<|e_p (zf yl rfl sz3 rfl rfl)<|e_ru (zg 1 ty3 rfl rfl rfl)<|e_p (zf yl rfl sz3 rfl rfl)<|e_ru (zg 2 ty3 rfl rfl rfl)<|e_p (zWa rfl rfl)<|zZ rfl rfl (zaa rfl) (fun h11=> ?_) (fun h11=> ?_)
       ·
        refine e_p (zf yl rfl sz3 rfl rfl)<|e_ru (zg 2 ty3 rfl rfl rfl)<|e_p (zf yl rfl sz3 rfl rfl)<|e_ru (zg 0 ty3 rfl rfl rfl)<|e_p (zda rfl rfl)<|e_p (zp rfl rfl)<|zZ rfl rfl (zaa rfl) (fun h12=> ?_) (fun h12=> ?_)
        ·
         refine e_ru (zb 1 ty30 rfl rfl (.t2 .nil))<|e_ru (zb 0 ty30 rfl rfl (.t2 .nil))<|e_ru (zb 2 ty30 rfl rfl (.t2 .nil))<|zQ rfl rfl (.c rfl (.c rfl (.c rfl .n))) ce54 (zib (ex:=(l.getD ((k+1)%n) (0,0)).1) (ey:=(l.getD ((k+1)%n) (0,0)).2) (fx:=(l.getD k (0,0)).1) (fy:=(l.getD k (0,0)).2) (gx:=hx) (gy:=hy) (hre:=cbo) (hrf:=cbo) (hrg:=cbo)) (.n)<|e_p (zDa rfl rfl)<|e_p (zp rfl rfl)<|zi ?_
         exact zha () tt9 ((.e rfl (congrArg Value.bool cbu) (.of rfl)):SubM _ _) (ho:=((.of [0,0,0] rfl):PickO _ _ _)) ((.of [0,1,2] rfl):SelR _ _ _)
        ·
         refine e_no<|e_no<|e_no<|e_no<|e_no<|e_p (zp rfl rfl)<|zi ?_
         exact zha () tt9 ((.e rfl (congrArg Value.bool cbu) (.of rfl)):SubM _ _) (ho:=((.of [0,0,0] rfl):PickO _ _ _)) ((.of [0,1,2] rfl):SelR _ _ _)
       ·
        refine e_no<|e_no<|e_no<|e_no<|e_no<|e_p (zp rfl rfl)<|e_mv rfl<|e_no<|e_no<|e_no<|e_no<|e_no<|e_p (zp rfl rfl)<|zi ?_
        exact zha () tt9 ((.e rfl (congrArg Value.bool cbu) (.of rfl)):SubM _ _) (ho:=((.of [0,0,0] rfl):PickO _ _ _)) ((.of [0,1,2] rfl):SelR _ _ _)
      ·
       rintro ⟨⟩ -
       try dsimp only
       refine zJ rfl (fun hhit=> ?_) (fun hhit=> ?_)
       ·
        refine za<|e_mv rfl<|e_p (zDd (z:=(-(Pg.inN n l (hx,hy) k))) rfl (w64 om))<|e_p (zd rfl)<|zi<|zT<|ze<|za<|e_p (zO (z:=(((k+1):Nat):Int)) rfl rfl (w64 om))<|e_mv rfl<|zi<|zla (k+1) (show (k+1)≤n∧∀w,w<(k+1)→¬Pg.onS (l.getD w (0,0)) (l.getD ((w+1)%n) (0,0)) (hx,hy) from by exact ⟨by omega,yw hall hon⟩) (by show n - (k+1)<n - k;omega) ((.e rfl (by rw [Pg.inN_hit ((Pg.hit_sw hsw).2 ⟨hhit.1.1,hhit.1.2,hhit.2⟩)]) (.of rfl)):SubM _ _) (ho:=((.c (i:=2) rfl .n):PickO _ _ _)) ((.c (j:=2) rfl .n):SelR _ _ _)
       ·
        refine zC<|zT<|ze<|za<|e_p (zO (z:=(((k+1):Nat):Int)) rfl rfl (w64 om))<|e_mv rfl<|zi<|zla (k+1) (show (k+1)≤n∧∀w,w<(k+1)→¬Pg.onS (l.getD w (0,0)) (l.getD ((w+1)%n) (0,0)) (hx,hy) from by exact ⟨by omega,yw hall hon⟩) (by show n - (k+1)<n - k;omega) ((.e rfl (by rw [Pg.inN_not (fun h=>hhit (by have h2:=(Pg.hit_sw hsw).1 h;exact ⟨⟨h2.1,h2.2.1⟩,h2.2.2⟩))]) (.of rfl)):SubM _ _) (ho:=((.c (i:=2) rfl .n):PickO _ _ _)) ((.c (j:=2) rfl .n):SelR _ _ _)
     ·
      refine zC<|ze<|zGa (X:=Unit) (fun x=>True) (fun x=>[(62,.bool (decide ((((l.getD k (0,0)).2≤hy)∧(hy<(l.getD ((k+1)%n) (0,0)).2))∧(0<(Pg.crs (((l.getD k (0,0)).1),((l.getD k (0,0)).2)) (((l.getD ((k+1)%n) (0,0)).1),((l.getD ((k+1)%n) (0,0)).2)) (hx,hy)).sign)))),(7,ya yb (Pg.inN n l (hx,hy) k)),(20,ya yb ((k:Nat):Int)),(19,ya yb ((n:Nat):Int)),(18,.slice p n cap),(3,yc (some ⟨b1,0,none⟩)),(0,.slice p n cap)]) (fun x=>[boxA b10 30 [ya yb ((l.getD ((k+1)%n) (0,0)).1),ya yb ((l.getD ((k+1)%n) (0,0)).2)],boxA b6 30 [ya yb ((l.getD k (0,0)).1),ya yb ((l.getD k (0,0)).2)],boxA b1 30 [ya yb hx,ya yb hy]]) (fun x=>[atF b7 o8 [ya yb ((l.getD ((k+1)%n) (0,0)).1),ya yb ((l.getD ((k+1)%n) (0,0)).2)],atF b3 o4 [ya yb ((l.getD k (0,0)).1),ya yb ((l.getD k (0,0)).2)],slF (rI2 .i64) p cap l]) ?_ ?_
      ·
       refine za<|e_p (zf yl rfl sz3 rfl rfl)<|e_ru (zg 1 ty3 rfl rfl rfl)<|e_p (zf yl rfl sz3 rfl rfl)<|e_ru (zg 2 ty3 rfl rfl rfl)<|e_p (zWa rfl rfl)<|zZ rfl rfl (zaa rfl) (fun h13=> ?_) (fun h13=> ?_)
       ·
        refine e_p (zf yl rfl sz3 rfl rfl)<|e_ru (zg 2 ty3 rfl rfl rfl)<|e_p (zf yl rfl sz3 rfl rfl)<|e_ru (zg 0 ty3 rfl rfl rfl)<|e_p (zda rfl rfl)<|e_p (zp rfl rfl)<|zZ rfl rfl (zaa rfl) (fun h14=> ?_) (fun h14=> ?_)
        ·
         refine e_ru (zb 1 ty30 rfl rfl (.t2 .nil))<|e_ru (zb 0 ty30 rfl rfl (.t2 .nil))<|e_ru (zb 2 ty30 rfl rfl (.t2 .nil))<|zQ rfl rfl (.c rfl (.c rfl (.c rfl .n))) ce54 (zib (ex:=(l.getD k (0,0)).1) (ey:=(l.getD k (0,0)).2) (fx:=(l.getD ((k+1)%n) (0,0)).1) (fy:=(l.getD ((k+1)%n) (0,0)).2) (gx:=hx) (gy:=hy) (hre:=cbo) (hrf:=cbo) (hrg:=cbo)) (.n)<|e_p (zDa rfl rfl)<|e_p (zp rfl rfl)<|zi ?_
         exact zha () tt9 ((.e rfl (congrArg Value.bool cbu) (.of rfl)):SubM _ _) (ho:=((.of [0,0,0] rfl):PickO _ _ _)) ((.of [0,1,2] rfl):SelR _ _ _)
        ·
         refine e_no<|e_no<|e_no<|e_no<|e_no<|e_p (zp rfl rfl)<|zi ?_
         exact zha () tt9 ((.e rfl (congrArg Value.bool cbu) (.of rfl)):SubM _ _) (ho:=((.of [0,0,0] rfl):PickO _ _ _)) ((.of [0,1,2] rfl):SelR _ _ _)
       ·
        refine e_no<|e_no<|e_no<|e_no<|e_no<|e_p (zp rfl rfl)<|e_mv rfl<|e_no<|e_no<|e_no<|e_no<|e_no<|e_p (zp rfl rfl)<|zi ?_
        exact zha () tt9 ((.e rfl (congrArg Value.bool cbu) (.of rfl)):SubM _ _) (ho:=((.of [0,0,0] rfl):PickO _ _ _)) ((.of [0,1,2] rfl):SelR _ _ _)
      ·
       rintro ⟨⟩ -
       try dsimp only
       refine zJ rfl (fun hhit=> ?_) (fun hhit=> ?_)
       ·
        refine za<|e_mv rfl<|e_p (zDd (z:=(-(Pg.inN n l (hx,hy) k))) rfl (w64 om))<|e_p (zd rfl)<|zi<|zT<|ze<|za<|e_p (zO (z:=(((k+1):Nat):Int)) rfl rfl (w64 om))<|e_mv rfl<|zi<|zla (k+1) (show (k+1)≤n∧∀w,w<(k+1)→¬Pg.onS (l.getD w (0,0)) (l.getD ((w+1)%n) (0,0)) (hx,hy) from by exact ⟨by omega,yw hall hon⟩) (by show n - (k+1)<n - k;omega) ((.e rfl (by rw [Pg.inN_hit ((Pg.hit_no hsw).2 ⟨hhit.1.1,hhit.1.2,hhit.2⟩)]) (.of rfl)):SubM _ _) (ho:=((.c (i:=2) rfl .n):PickO _ _ _)) ((.c (j:=2) rfl .n):SelR _ _ _)
       ·
        refine zC<|zT<|ze<|za<|e_p (zO (z:=(((k+1):Nat):Int)) rfl rfl (w64 om))<|e_mv rfl<|zi<|zla (k+1) (show (k+1)≤n∧∀w,w<(k+1)→¬Pg.onS (l.getD w (0,0)) (l.getD ((w+1)%n) (0,0)) (hx,hy) from by exact ⟨by omega,yw hall hon⟩) (by show n - (k+1)<n - k;omega) ((.e rfl (by rw [Pg.inN_not (fun h=>hhit (by have h2:=(Pg.hit_no hsw).1 h;exact ⟨⟨h2.1,h2.2.1⟩,h2.2.2⟩))]) (.of rfl)):SubM _ _) (ho:=((.c (i:=2) rfl .n):PickO _ _ _)) ((.c (j:=2) rfl .n):SelR _ _ _)
   ·
    refine zqa<|zk<|zk<|zD<|ze<|zh<|za<|e_mv rfl<|e_p (zd rfl)<|e_p (zd rfl)<|zi<|ze<|zL ?_
    obtain ⟨hv1,hv2⟩:=Pg.is_ok (q:=(hx,hy)) hz (by rw [hfar];decide)
    exact zBa yK () trivial (zl rfl) (zl rfl) (by rw [hv1,hv2,Pg.ins_go hn (fun w hw=>hall w om),show k=n by omega]) (ho:=oN) sN
end Go.Proofs.YtjcpbhlijoigfaaGreat.Sp
namespace Go.Proofs.YtjcpbhlijoigfaaGreat.Sp
open Go
set_option linter.unusedVariables false
section
variable {P : Program} {c : Cx} {n : Sz} {Q : Exit → Act → World → Prop} {m : Fm} {O : List As} {R : List Fa} {α : Type} {d : Option Tmp} {ty : TypeId} {ps : String} {af : Array Edge} {gd : Option (Nat × Bool)}
theorem RowOn.drop {T:TypeId} {r:Rp α} {p:Option Addr} {cap:Nat} {l:List α} {g h:Hp} (k:Nat) (hk:k≤l.length) (s:RowOn T r p cap l g h):RowOn T r (newP p cap k r.sz) (cap - k) (l.drop k) g h:=by
  rcases s with ⟨h1,h2,h3,h4⟩|⟨b,off,cells,e1,e2,e3,e4,e5,e6⟩
  · subst h3; simp at hk; subst hk
    exact .inl ⟨by unfold newP;rw [h1];split <;> rfl,by omega,rfl,h4⟩
  · by_cases e : cap = k
    · refine .inr ⟨b, off, cells, by unfold newP; rw [if_pos e, e1], by rw [List.length_drop]; omega, by omega, ?_, e5, fun i x h => ?_⟩
      · rw [e,Nat.sub_self,Nat.zero_mul];omega
      · rw [List.getElem?_drop] at h
        have:=(List.getElem?_eq_some_iff.1 h).1;omega
    · refine .inr ⟨b, off + k * r.sz, cells, ?_, by rw [List.length_drop]; omega, by omega, ?_, e5, fun i x h => ?_⟩
      · unfold newP; rw [if_neg e, e1]
        by_cases z:k*r.sz=0
        · rw [z];simp [Addr.add]
        · simp [Addr.add,z]
      · have : (cap - k) * r.sz + k * r.sz = cap * r.sz := by rw [← Nat.add_mul]; congr 1; omega
        omega
      · rw [List.getElem?_drop] at h
        obtain ⟨γ,a1,a2⟩:=e6 (k+i) x h
        refine ⟨γ,⟨a1.1,fun j v hv=> ?_⟩,a2⟩
        have:=a1.2 j v hv
        rw [Nat.add_mul] at this
        rw [show off+k*r.sz+i*r.sz+j=off+(k*r.sz+i*r.sz)+j by omega];exact this
end
end Go.Proofs.YtjcpbhlijoigfaaGreat.Sp
namespace Go.Proofs.YtjcpbhlijoigfaaGreat.Sp
open Go
set_option linter.unusedVariables false
abbrev Tr:=Option Addr×Nat×Nat
section
variable {P : Program} {c : Cx} {n : Sz} {m : Fm} {O : List As} {R : List Fa} {α : Type} {r : Rp α} {Z : List Tr} {ls : List (List α)} {d : Option Tmp} {ty : TypeId} {ps : String} {af : Array Edge} {gd : Option (Nat × Bool)}
theorem zV {x:Operand} {b o:Nat} (h:evo m x=some (.pointer (some ⟨b,o,none⟩))):PV P n ⟨d,.nilCheck x,ty,ps,af,gd⟩ m (.pointer (some ⟨b,o,none⟩)):=fun a w f=>by
  simp [execOp,f.ev h]
end
end Go.Proofs.YtjcpbhlijoigfaaGreat.Sp
namespace Go.Proofs.YtjcpbhlijoigfaaGreat.Sp
open Go
set_option linter.unusedVariables false
abbrev nv (x:Nat):Value:= .int .i64 (x:Int)
def rgC (p:Option Addr) (n cap:Nat) (B N:List Nat) (k s:Int):List Value:= .slice p n cap :: (B.map nv++(N.map nv++[.int .i64 k,.int .i64 s]))
section
variable {P : Program} {n : Sz} {m : Fm} {d : Option Tmp} {ty : TypeId} {ps : String} {af : Array Edge} {gd : Option (Nat × Bool)}
theorem zja {s e:TypeId} {x ix:Operand} {b o len i:Nat} {kk:IntKind} (hu:P.underlying s=some (.array len e)) (ht:(P.info? e).map (·.size)=some 1)
    (h:evo m x=some (.pointer (some ⟨b,o,none⟩))) (hi:evo m ix=some (.int kk (i:Int))) (hl:i<len):PV P n ⟨d,.indexAddr s x ix,ty,ps,af,gd⟩ m (.pointer (some ⟨b,o+i,none⟩)):=zKc hu ht h hi hl (by rw [Nat.mul_one])
end
section
variable {p : Option Addr} {n cap : Nat} {B N : List Nat} {k s : Int} {j x : Nat}
theorem rg_B (hB:B.length=64) (hN:N.length=64) (hj:j<64):(rgC p n cap B N k s)[1+j]? =some (nv (B.getD j 0)):=by
  unfold rgC
  rw [Nat.add_comm,List.getElem?_cons_succ,List.getElem?_append_left (by rw [List.length_map];omega),List.getElem?_map,List.getD_eq_getElem?_getD,List.getElem?_eq_getElem (by omega)]
  rfl
theorem rg_N (hB:B.length=64) (hN:N.length=64) (hj:j<64):(rgC p n cap B N k s)[65+j]? =some (nv (N.getD j 0)):=by
  unfold rgC
  rw [show 65+j=(64+j)+1 by omega,List.getElem?_cons_succ,List.getElem?_append_right (by rw [List.length_map];omega),List.length_map,hB,Nat.add_sub_cancel_left,List.getElem?_append_left (by rw [List.length_map];omega),List.getElem?_map,List.getD_eq_getElem?_getD,List.getElem?_eq_getElem (by omega)]
  rfl
theorem rg_k (hB:B.length=64) (hN:N.length=64):(rgC p n cap B N k s)[129]? =some (.int .i64 k):=by
  unfold rgC
  rw [List.getElem?_cons_succ,List.getElem?_append_right (by rw [List.length_map];omega),List.length_map,hB,List.getElem?_append_right (by rw [List.length_map];omega),List.length_map,hN]
  rfl
theorem rg_s (hB:B.length=64) (hN:N.length=64):(rgC p n cap B N k s)[130]? =some (.int .i64 s):=by
  unfold rgC
  rw [List.getElem?_cons_succ,List.getElem?_append_right (by rw [List.length_map];omega),List.length_map,hB,List.getElem?_append_right (by rw [List.length_map];omega),List.length_map,hN]
  rfl
theorem upd_set {l:List Value} {o:Nat} {v:Value} (h:o<l.length):Upd l o [v] (l.set o v):=by
  refine ⟨h,?_⟩
  rw [List.set_eq_take_append_cons_drop,if_pos h];simp
theorem rg_len (hB:B.length=64) (hN:N.length=64):(rgC p n cap B N k s).length=131:=by unfold rgC;simp [hB,hN]
theorem rg_setB (hB:B.length=64) (hN:N.length=64) (hj:j<64):Upd (rgC p n cap B N k s) (1+j) [nv x] (rgC p n cap (B.set j x) N k s):=by
  have h:=upd_set (l:=rgC p n cap B N k s) (o:=1+j) (v:=nv x) (by rw [rg_len hB hN];omega)
  have e:(rgC p n cap B N k s).set (1+j) (nv x)=rgC p n cap (B.set j x) N k s:=by
    unfold rgC
    rw [Nat.add_comm,List.set_cons_succ,List.set_append_left _ _ (by rw [List.length_map];omega),List.map_set]
  rwa [e] at h
theorem rg_setN (hB:B.length=64) (hN:N.length=64) (hj:j<64):Upd (rgC p n cap B N k s) (65+j) [nv x] (rgC p n cap B (N.set j x) k s):=by
  have h:=upd_set (l:=rgC p n cap B N k s) (o:=65+j) (v:=nv x) (by rw [rg_len hB hN];omega)
  have e:(rgC p n cap B N k s).set (65+j) (nv x)=rgC p n cap B (N.set j x) k s:=by
    unfold rgC
    rw [show 65+j=(64+j)+1 by omega,List.set_cons_succ,List.set_append_right _ _ (by rw [List.length_map];omega),List.length_map,hB,Nat.add_sub_cancel_left,List.set_append_left _ _ (by rw [List.length_map];omega),List.map_set]
  rwa [e] at h
theorem rg_setk {k':Int} (hB:B.length=64) (hN:N.length=64):Upd (rgC p n cap B N k s) 129 [.int .i64 k'] (rgC p n cap B N k' s):=by
  have h:=upd_set (l:=rgC p n cap B N k s) (o:=129) (v:= .int .i64 k') (by rw [rg_len hB hN];omega)
  have e:(rgC p n cap B N k s).set 129 (.int .i64 k')=rgC p n cap B N k' s:=by
    unfold rgC
    rw [List.set_cons_succ,List.set_append_right _ _ (by rw [List.length_map];omega),List.length_map,hB,List.set_append_right _ _ (by rw [List.length_map];omega),List.length_map,hN]
    rfl
  rwa [e] at h
end
theorem rgl {p:Prop} (h:p:=by first|assumption|(simp only [List.length_set];assumption)):p:=h
end Go.Proofs.YtjcpbhlijoigfaaGreat.Sp
