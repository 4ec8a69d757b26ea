import PyProof.Rows.All
import Wide.All
import OpenK.AllK
import Wide.FinOn
import Lean
import PySem.Challenge.RW_tu0005_01
set_option Elab.async false
open Prod renaming fst → CI
open Lean renaming Syntax → iN, mkIdent → CJ
open String renaming ofList → Lv
open Nat renaming ble → nI, le_trans → bR, le_of_ble_eq_true → iO, lt_succ_of_le → uj, le_of_lt_succ → kh, lt_of_lt_of_le → ey, add_le_add → nJ, not_lt → kW, le_succ_of_le → rM, le_of_lt → c', ne_of_lt → ki, le_add_right → f6, add_right_comm → iP, le_succ → lN, add_lt_add_left → Z0, zero_add → nN, add_comm → o2, add_sub_add_right → CK, lt_succ_self → kk, le_sub_one_of_lt → xK, exists_eq_add_one → mC, sub_pos_of_lt → uk, le_refl → bE, sub_right_comm → Ly, sub_add_cancel → CL, lt_of_succ_lt_succ → rO, le_add_left → Lz, sub_le_of_le_add → LA, add_lt_of_lt_sub → Z1, lt_of_le_of_lt → gI, casesAuxOn → fe, zero_le → fx, succ_le_succ → jf, succ_pos → ji, le_of_eq → eQ, lt_irrefl → qu, succ_add → LM, lt_succ_of_lt → lO, lt_of_lt_of_eq → rT, sub_lt_sub_left → ux, le_antisymm → rU, add_le_add_left → lR, add_assoc → rV, add_le_add_right → aaa, lt_trans → lS, not_lt_zero → o5, sub_self → kY, le_of_succ_le_succ → o6, lt_or_ge → CR, add_sub_cancel' → mG, exists_eq_add_of_le → xQ, le_of_add_le_add_left → aah, add_sub_cancel → lT, add_sub_cancel_left → iu, sub_sub_self → xR, sub_eq_zero_of_le → CS, lt_or_eq_of_le → rW, sub_le → rX, lt_add_of_pos_right → qw, le_of_succ_le → xX, mul_le_mul_left → qy, add_sub_of_le → L2, lt_of_sub_pos → L4, one_pos → xZ, sub_lt → uC, exists_eq_add_of_lt → aas, succ_lt_succ → C5, sub_zero → C6
open Int renaming le_trans → cZ, lt_of_le_of_lt → mB, lt_of_lt_of_le → oZ, le_of_lt_add_one → ZY, not_lt → ez, not_le → o1, ofNat_le → nK, natCast_nonneg → nL, sub_le_sub_right → Lw, ofNat_lt → nM, add_zero → eP, natCast_succ → xI, add_le_add_left → ZZ, natAbs_of_nonneg → xJ, le_of_lt → jO, le_antisymm → rN, add_le_add → kj, natCast_sub → Lx, sub_le_sub → um, ofNat_natAbs_of_nonpos → LB, mul_add → LC, mul_one → LD, add_comm → rP, lt_trans → uq, eq_ofNat_of_zero_le → Z6, sub_zero → rS, le_refl → dZ, add_le_add_right → kn, lt_irrefl → LY, sub_self → rY, zero_add → ko, le_add_of_nonneg_right → CW, le_of_eq → nR, le_of_add_le_add_right → aak, add_right_comm → CX, add_lt_add_right → aal, lt_of_add_lt_add_right → aam, fdiv_eq_ediv_of_nonneg → r0, ediv_nonneg → CZ, add_assoc → qx, neg_le_neg → C0, mul_nonneg → L1, add_nonneg → r1, mul_le_mul_of_nonneg_left → C1, fmod_eq_emod_of_nonneg → aao, fmod_nonneg_of_pos → aap, pow_succ → L3, neg_nonpos_of_nonneg → L8, sub_nonneg_of_le → aav, sub_le_sub_left → L9, add_pos_of_pos_of_nonneg → L', add_pos_of_nonneg_of_pos → aaw
open List renaming range → iQ, pairwise_singleton → CM, pairwise_cons → uo, mem_cons → ec, replicate → xM, prefix_refl → ir, getElem?_eq_some_iff → d7, getElem?_append_left → mD, casesOn → bY, getElem?_eq_getElem → gp, getElem?_append_right → iR, getElem?_set → LF, getElem?_eq_none → jd, length_set → kl, getElem?_concat_length → LG, length_append → b4, prefix_append → o3, mem_filterMap → qr, mem_range → kX, findIdx?_eq_some_iff_getElem → Z3, getD_eq_getElem?_getD → je, contains_iff_mem → qs, all_eq_true → h2, eq_nil_of_length_eq_zero → o4, append_nil → ei, contains_cons → Z5, isEmpty_iff → km, map_eq_nil_iff → CN, mem_map → f9, getElem_mem → uu, length → xN, map_cons → g0, map_congr_left → nO, nodup_cons → jg, getElem?_toArray → uv, mem_singleton → dY, size_toArray → jh, reverse_cons → mE, getElem?_take → CO, getElem?_drop → LJ, take_of_length_le → uw, sum_cons → xO, toArray → mF, length_map → bF, nil_append → nQ, map_map → jP, length_range → LN, getElem?_map → lP, getElem?_range → Z9, findIdx?_cons → Z', drop_eq_getElem_cons → CP, forall_mem_cons → LO, append_assoc → eR, lookup_cons → hs, mem_append → dR, forIn_cons → LQ, sizeOf_lt_of_mem → LS, length_cons → gA, length_reverse → ff, eraseDups_cons → aab, length_filter_le → LU, filterMap_cons → uA, length_filterMap_le → aad, mem_iff_getElem? → aae, getElem?_reverse → LV, mem_of_getElem? → fI, cons_append → xP, filter_eq_nil_iff → aaf, length_take_le → aag, length_drop → CT, mem_filter → CU, mem_of_mem_take → aaj, reverseAux → xS, pairwise_append → CV, take_left → rZ, take_length → o7, length_nil → CY, map_nil → xU, not_mem_nil → kZ, map_append → fy, drop_eq_nil_iff → aan, getElem?_eq_none_iff → xV, getElem?_set_self → xW, set_set → L0, sublist_append_left → C2, filter_cons → xY, range' → uB, getElem?_set_ne → aaq, map_reverse → iv, mem_reverse → lV, sum_append → C3, reverse_append → nS, length_pos_iff → x1, reverse_eq_nil_iff → aar, sum_reverse → L5, take_succ_cons → aat, take_zero → L6, take_append_of_le_length → r2, pairwise_iff_getElem → C4, reverse_reverse → L7, pairwise_reverse → aau
open Classical renaming byCases → bZ, byContradiction → eA
open And renaming elim → bC, right → qp, left → qq
open PySem renaming BoolOp → rQ, intKind → nP, strKind → qt, mem_of_lookup → LW
open Or renaming elim → eF
open Option renaming map_eq_some_iff → Z2, casesOn → gJ, isNone → LH, isNone_iff_eq_none → ur, map → LK, bind_some → Z8, isSome_iff_exists → LP, elim_none → aax, some → I, none → J
open Bool renaming and_eq_true_iff → cC, or_eq_true_iff → Z4, casesOn → hL, false_or → LI, false_and → LL, false_ne_true → rR, and_eq_true → uy, or_eq_true → qv, not_eq_true' → uz, not_eq_false → LR, or_eq_false_iff → aac, or_false → LX, true_and → lU, or_true → xT, and_true → LZ, and_false → C7
open Exists renaming elim → f7
open Array renaming toArray_toList → Z7, isEmpty_iff → aai
open ForInStep renaming yield → lQ
open Decidable renaming not_not → CQ, decide → U
set_option compiler.extract_closed false
set_option linter.all false
set_option tactic.hygienic false
set_option genInjectivity false
set_option genSizeOf false
set_option genCtorIdx false
set_option backward.match.sparseCases false
theorem Mine.aay{α:Type _}{P:Prop}{x:α}(h:J=I x):P:=nomatch h
theorem Mine.aaz{α:Type _}{P:Prop}{x:α}(h:I x=J):P:=nomatch h
theorem Mine.aaA{α β:Type _}{a c:α}{b d:β}(h:I (a,b)=I (c,d)):a=c∧b=d:=⟨congrArg CI (Option.some.inj h),congrArg Prod.snd (Option.some.inj h)⟩
@[elab_as_elim] theorem Mine.Ma{α:Sort _}{a b:α}{motive:α→Prop}(h:a=b)(p:motive b):motive a:=h▸p
@[elab_as_elim] theorem Mine.Mb{α:Sort _}{a b:α}{motive:α→Prop}(h:b=a)(p:motive b):motive a:=h▸p
section
set_option compiler.extract_closed false
def Mine.eS(n:Nat)(k:Lean.Name)(l:List iN):List iN:=.node .none k (l.take n).reverse.toArray::l.drop n
def Mine.rp(s:String)(a:List iN):iN:=((s.splitOn " ").foldl (fun l w=>
  let c:=w.toList;let h:=c.headD 'a';let d:=c.getD 1 '0';let n:=d.toNat-48;let x:=(Lv c.tail).toName
  if h=='a' then .atom .none (Lv c.tail)::l else if h=='@' then(CJ x).raw::l else if h=='$' then a.getD n .missing::l else if h=='n' then eS n `null l
  else if h=='s' then eS 1 ``Lean.Parser.Tactic.tacticSeq (eS 1 ``Lean.Parser.Tactic.tacticSeq1Indented (eS n `null l))
  else eS (h.toNat-48) ((if d=='T' then `Lean.Parser.Tactic else if d=='M' then `Lean.Parser.Term else .anonymous)++(Lv (c.drop 2)).toName) l) []).headD .missing
def Mine.nl(l:List iN):List iN:=[.node .none `null l.toArray]
def Mine.sq(l:List iN):iN:=rp "$0 1TtacticSeq1Indented 1TtacticSeq" (nl (l.intersperse (.atom .none "")))
def Mine.Mc(t:iN)(c:Char):iN:=rp (if c=='R' then "a $0 2Trepeat1'" else if c=='f' then "a @rfl 2Texact" else if c=='F' then "a a a @rfl 2Texact s1 2Ngroup a $0 2Ngroup n2 2Tfirst" else if c=='T' then "a a $0 2Ngroup a a @rfl 2Texact s1 2Ngroup n2 2Tfirst" else if c=='D' then "a a a n0 1ToptConfig 2Tdecide s1 2Ngroup a $0 2Ngroup n2 2Tfirst" else if c=='I' then "a a 1Mhole n1 2Tintro" else if c=='t' then "a $0 a 3Tparen" else if c=='a' then "a @gV @eY a0 1Nnum n1 2Mapp n1 2Mapp 2Texact" else if c=='b' then "a @gV @eY a1 1Nnum n1 2Mapp n1 2Mapp 2Texact" else if c=='S' then "a n0 $0 3TtacticIterate____" else if c=='U' then "a a 1TtacticBv_omega a a n0 $0 3TtacticIterate____ s3 a 3Tparen" else if c=='d' then "a 1TtacticBv_omega" else "a a a a a a @Uu 2Tapply s1 2TwithReducible s1 a 3Tparen a a @rfl 2Texact a a n0 $0 3TtacticIterate____ s5 a 3Tparen s1 2Ngroup a a a a a @iz 2Tapply s1 2TwithReducible s1 a 3Tparen a a @rfl 2Texact a a n0 $0 3TtacticIterate____ s5 a 3Tparen s1 2Ngroup a a a @n3 2Tapply s1 2TwithReducible s1 2Ngroup n3 2Tfirst") [t]
def Mine.rwx(rs:List iN):iN:=rs.foldr (fun r z=>rp "a a a a a $0 $1 a a 2MsyntheticHole n2 2Mapp 2Trefine s1 2Ngroup a a n0 1ToptConfig a $2 n1 a 3TrwRuleSeq n0 4TrewriteSeq s1 2Ngroup n2 2Tfirst s1 a 3Tparen a $3 s3 a 3Tparen" [(CJ (if r[0].getNumArgs==0 then ``Mine.Ma else ``Mine.Mb)).raw,r[1],r,z]) (rp "a a a 1TtacticRfl s1 2TwithReducible s1 2TtacticTry_" [])
def Mine.evm(o8:String)(t:iN)(z:iN):iN:=rp "a $0 2Tfirst" (nl (((o8.splitOn " ").map (fun p=>
  let s:=p.splitOn "/"
  sq (rp "a a $0 2Tapply s1 2TwithReducible" [(CJ (.mkSimple s.head!)).raw]::s.getLast!.toList.map (Mc t)))++[z]).map fun s=>rp "a $0 2Ngroup" [s]))
def Mine.inj(h:iN):iN:=let f:=fun s=>(CJ (h.getId.appendAfter s)).raw;rp "a a a @Mine.aay $0 n1 2Mapp 2Texact s1 2Ngroup a a @Mine.aaz $0 n1 2Mapp 2Texact s1 2Ngroup a a $0 n1 2Tsubst s1 2Ngroup a a a a $1 1TrcasesPat.one n1 1TrcasesPatMed n0 2TrcasesPatLo a $2 1TrcasesPat.one n1 1TrcasesPatMed n0 2TrcasesPatLo n3 a 3TrcasesPat.tuple n1 1TrcasesPatMed n1 n0 a @Mine.aaA $0 n1 2Mapp n1 n2 4Tobtain a a $0 n1 2Tclear a a n0 $1 2TelimTarget n1 n0 n0 4Tcases a a n0 $2 2TelimTarget n1 n0 n0 4Tcases 3T«tactic_<;>_» s5 a 3Tparen s1 2Ngroup a a a $0 1MletId n0 n0 a @Option.some.inj $0 n1 2Mapp 5MletIdDecl 1MletDecl 2Treplace a a n0 $0 2TelimTarget n1 n0 n0 4Tcases s3 a 3Tparen s1 2Ngroup a a a 1TtacticExfalso a a $0 n0 3Tinjection a a 1Tdone s5 a 3Tparen s1 2Ngroup a a a a $1 1TrcasesPat.one n1 1TrcasesPatMed n0 2TrcasesPatLo a $2 1TrcasesPat.one n1 1TrcasesPatMed n0 2TrcasesPatLo n3 a 3TrcasesPat.tuple n1 1TrcasesPatMed n1 n0 a @Prod.mk.inj $0 n1 2Mapp n1 n2 4Tobtain a a $0 n1 2Tclear a a n0 $1 2TelimTarget n1 n0 n0 4Tcases a a n0 $2 2TelimTarget n1 n0 n0 4Tcases 3T«tactic_<;>_» s5 a 3Tparen s1 2Ngroup a a a $0 a $1 $2 n2 n2 3Tinjection a a n0 $1 2TelimTarget n1 n0 n0 4Tcases a a n0 $2 2TelimTarget n1 n0 n0 4Tcases 3T«tactic_<;>_» s3 a 3Tparen s1 2Ngroup a a a $0 a $1 n1 n2 3Tinjection a a n0 $1 2TelimTarget n1 n0 n0 4Tcases s3 a 3Tparen s1 2Ngroup n9 2Tfirst" [h,f "a",f "b"]
end
local macro_rules | `(tactic| erw [$rs,*]) => pure (Mine.rwx (rs.getElems.toList.map (·.raw)))
local macro_rules | `(tactic| injections $h:ident) => pure (Mine.inj h)
noncomputable section
section
namespace Mine
theorem cz{a c k:Nat}(h:a≤c)(e:nI c k=true):a≤k:=bR h (iO e)
theorem nT{a c k:Nat}(h:a≤c)(e:nI c k=true):a<k+1:=uj (cz h e)
theorem qz{a c k:Nat}(h:a<c)(e:nI c (k+1)=true):a≤k:=kh (ey h (iO e))
theorem r3{a b c k:Nat}(h:a≤b)(g:b≤c)(e:nI c k=true):a≤k:=cz (bR h g) e
theorem r4{a b c k:Nat}(h:a<b)(g:b≤c)(e:nI c (k+1)=true):a≤k:=qz (ey h g) e
theorem x8{a b c k:Nat}(h:a=b)(g:b≤c)(e:nI c k=true):a≤k:=h▸cz g e
theorem kp{a b c d k:Nat}(h:a≤c)(g:b≤d)(e:nI (c+d) k=true):a+b≤k:=cz (nJ h g) e
theorem d3{a c k:Int}(h:a≤c)(e:U (c≤k)=true):a≤k:=cZ h (of_decide_eq_true e)
theorem k0{a c k:Int}(h:a≤c)(e:U (c<k)=true):a<k:=mB h (of_decide_eq_true e)
theorem C8{a c k:Int}(h:a<c)(e:U (c≤k)=true):a<k:=oZ h (of_decide_eq_true e)
theorem C9{a c k:Int}(h:a<c)(e:U (c≤k+1)=true):a≤k:=ZY (C8 h e)
theorem d0{a c k:Int}(h:c≤a)(e:U (k≤c)=true):k≤a:=cZ (of_decide_eq_true e) h
theorem Md{a c k:Int}(h:c<a)(e:U (k≤c)=true):k<a:=mB (of_decide_eq_true e) h
theorem Me{a c k:Int}(h:¬a<c)(e:U (k≤c)=true):k≤a:=d0 (ez.mp h) e
theorem Mf{a c k:Int}(h:U (a≤c)=false)(e:U (k≤c)=true):k<a:=Md (o1.mp (of_decide_eq_false h)) e
theorem C'{a c k:Int}(h:U (c≤a)=false)(e:U (c≤k)=true):a<k:=C8 (o1.mp (of_decide_eq_false h)) e
theorem uD{a c:Nat}{k:Int}(h:a≤c)(e:U ((c:Int)≤k)=true):(a:Int)≤k:=cZ (nK.mpr h) (of_decide_eq_true e)
theorem x9{a b c:Nat}{k:Int}(h:a≤b)(g:b≤c)(e:U ((c:Int)≤k)=true):(a:Int)≤k:=uD (bR h g) e
theorem r5{a:Nat}{k:Int}(e:U (k≤0)=true):k≤(a:Int):=cZ (of_decide_eq_true e) (nL a)
theorem Dc{a c d k:Int}(h:a≤c)(e:U (c-d≤k)=true):a-d≤k:=d3 (Lw h d) e
theorem mH{a b:Nat}(h:a≤b):(a:Int)≤b:=nK.mpr h
theorem Mg{a b:Nat}(h:a<b):(a:Int)<b:=nM.mpr h
theorem x'{a b:Nat}(h:b≤a):¬(a:Int)<b:=ez.mpr (mH h)
theorem Dd{a b:Nat}(h:U ((a:Int)<b)=true):a<b:=nM.mp (of_decide_eq_true h)
theorem De{a b:Nat}(h:U ((a:Int)<b)=false):¬a<b:=fun g=>of_decide_eq_false h (Mg g)
theorem uE{a b:Nat}(h:¬a<b):b≤a:=kW.mp h
theorem Df{a b:Int}(h:¬a<b):b≤a:=ez.mp h
theorem Dg{a b:Nat}(h:¬a≤b):b<a:=Nat.not_le.mp h
theorem uF{a b:Int}:a+(b+0)=a+b:=by rw[eP]
theorem ya{a:Int}:a+0+0=a:=by rw[eP,eP]
theorem Dh{a b:Nat}(h:a<b):b=b-1+1:=(Nat.succ_pred_eq_of_pos (Nat.zero_lt_of_lt h)).symm
theorem yb{a b:Nat}(h:a≤b):a≤b+1:=rM h
theorem Di{a c k:Nat}(h:c≤a)(e:nI k c=true):k≤a:=bR (iO e) h
theorem uG{a b c:Nat}(h:a<b)(g:b≤c):a≤c:=c' (ey h g)
theorem Dj{a b c:Nat}(h:a<b)(g:b≤c+1):a≤c:=kh (ey h g)
theorem Mh{a b c:Nat}(h:a<b)(g:b≤c):¬a=c:=ki (ey h g)
theorem yc{a b c:Nat}(h:a<b):a<b+c:=ey h (f6 ..)
theorem Mi{a b c d:Nat}(h:a<b):a<b+c+d:=yc (yc h)
theorem Dk{j k l:Nat}(h:j<k+(l+1)):j<k+1+l:=by rw[iP];exact h
theorem Mj{j k l:Nat}(h:j<k+1+l):j<k+(l+1):=by rw[iP]at h;exact h
theorem yd{k l n:Nat}(h:k+(l+1)≤n):k+1+l≤n:=by rw[iP];exact h
theorem ye{k l n c:Nat}(h:k+l≤n)(e:nI n c=true):k≤c:=cz (bR (f6 ..) h) e
theorem yf{c K:Int}{m:Nat}(h:c+((m+1:Nat):Int)≤K):c+(m:Int)≤K:=by rw[xI]at h;lia
theorem Mk{c K:Int}{m:Nat}(h:c+((m+1:Nat):Int)≤K):c+1+(m:Int)≤K:=by rw[xI]at h;lia
theorem Ml{c K:Int}{m k:Nat}(g:k≤m)(h:c+(m:Int)≤K):c+(k:Int)≤K:=cZ (ZZ (mH g) c) h
theorem Mm{s K:Int}(h:¬s< -K):¬K< -s:=by lia
theorem Dl{a b:Int}(h:¬a-b>0):0≤ -(a-b):=by lia
theorem Dm{s:Int}(h:s>0):(s.natAbs:Int)=s:=xJ (jO h)
theorem Dn{s:Int}(h:0≤s):s=(s.toNat:Int):=(Int.toNat_of_nonneg h).symm
theorem Mn{p k:Int}(h:¬p>k)(g:¬k>p):p=k:=rN (ez.mp h) (ez.mp g)
theorem Dp{n:Nat}{k:Int}(h:(n:Int)=k):((n+1:Nat):Int)=k+1:=by rw[←h];rfl
theorem Mo{w:Int}{j:Nat}(h:w≤(j:Int)):w≤((j+1:Nat):Int):=cZ h (mH (lN j))
theorem Dq{a b c d k:Int}(h:a≤c)(g:b≤d)(e:U (c+d<k)=true):a+b<k:=k0 (kj h g) e
theorem Dr{a b c d k:Int}(h:c≤a)(g:d≤b)(e:U (k≤c+d)=true):k≤a+b:=d0 (kj h g) e
theorem Ds{a b:Nat}(h:(a:Int)<b):a<b:=nM.mp h
theorem Mp{a b:Nat}(h:a+1=b):(a:Int)=(b:Int)-1:=by lia
theorem Mq{a b:Nat}(h:(a:Int)=(b:Int)-1):a+1=b:=by lia
theorem Mr{a b c:Nat}(h:a<b):c+a<c+b:=Z0 h c
theorem Ms{a k c:Nat}(h:a<k)(e:nI k (c+1)=true):0+a≤c:=(nN a).symm▸qz h e
theorem aaB{i n m:Nat}(h:i<n)(e:m=n):i<m:=e▸h
theorem Mt{i n m:Nat}(h:¬i<n)(e:m=n):m≤i:=e▸kW.mp h
theorem Mu{a b c:Int}(h:a<b)(g:b≤c):a≤c:=jO (oZ h g)
theorem yg{k n m:Nat}(h:n-k=m+1):m=n-(k+1):=(congrArg Nat.pred h).symm
theorem Mv{v k i:Nat}(aa:k≤v)(ab:v≤i):(v-k)+(i-v)=i-k:=(o2 ..).trans (Nat.sub_add_sub_cancel ab aa)
theorem Mw{i n:Nat}(h:i<n):n+1-(i+1)<n+1-i:=by rw[CK,Nat.succ_sub (c' h)];exact kk _
theorem Dt{a b:Nat}(h:a<b):((b-1-a:Nat):Int)=(b:Int)-1-a:=by rw[Lx (xK h),Lx (Nat.zero_lt_of_lt h:1≤b)];rfl
theorem Mx{m x:Nat}(h:x<2):m+4*(2-(x+1))+4=m+4*(2-x):=let⟨y,e⟩:=mC.mpr (uk h);by rw[←yg e,e];rfl
theorem My{m x:Nat}(h:x<2):m+(2-(x+1))+1≤m+(2-x):=let⟨y,e⟩:=mC.mpr (uk h);by rw[←yg e,e];exact bE _
theorem Du{i n:Nat}(h:i<n):n+1-(i+1)=n-1-i+1:=by rw[CK,Ly,CL (uk h)]
theorem Mz{i n:Nat}(h:i+1<n+1):n+1-(i+1)=n-1-i+1:=Du (rO h)
theorem MA{a b:Nat}(aa:1≤b)(h:b<a):b-1<a-1:=Nat.sub_lt_sub_right aa h
theorem MB{x y:Nat}(h:y≠0):(x:Int)+y-1=((x+y-1:Nat):Int):=by rw[Lx (bR (Nat.one_le_iff_ne_zero.mpr h) (Lz y x))];rfl
theorem Dv{b c:Nat}(h:b≤c+1):b-1≤c:=LA h
theorem MC{b c x:Nat}(g:x<b-1)(h:b≤c+1):x<c:=ey g (Dv h)
theorem MD{b x:Nat}(g:x<b-1):x+1<b:=Z1 g
theorem uH{a b n:Nat}(h:1+a+b<n+1):a<n:=ey (Nat.lt_add_of_pos_left Nat.zero_lt_one) (bR (f6 (1+a) b) (kh h))
theorem o9{a b n:Nat}(h:1+a+b<n+1):b<n:=uH (a:=b) (b:=a) (by rw[iP];exact h)
theorem jQ{a b n:Nat}(h:a+b<n+1):a<n+1:=gI (f6 ..) h
theorem qA{x y n:Nat}(e:x=y)(h:x<n):y<n:=e▸h
theorem Dw{i:Int}{n:Nat}(h0:0≤i)(h:i<n):i.toNat<n:=(Int.toNat_lt h0).mpr h
theorem ME{a b c x y z k:Int}(h:z≤c)(g:x≤a)(f:b≤y)(e:U (k≤x-y+z)=true):k≤a-b+c:=d0 (kj (um g f) h) e
theorem MF{a b c x y z k:Int}(h:c≤z)(g:a≤x)(f:y≤b)(e:U (x-y+z≤k)=true):a-b+c≤k:=d3 (kj (um g f) h) e
theorem MG{a b x y k:Int}(h:a≤x)(g:y≤b)(e:U (x-y≤k)=true):a-b≤k:=d3 (um h g) e
theorem MH{a b x y k:Int}(h:x≤a)(g:b≤y)(e:U (k≤x-y)=true):k≤a-b:=d0 (um h g) e
theorem MI{a c k:Int}(h:c≤a)(e:U (k<c)=true):k<a:=oZ (of_decide_eq_true e) h
theorem MJ{x:Int}{a b c d:Int}(h:a≤x∧x≤b)(e:U (c<a)=true)(f:U (b<d)=true):c<x∧x<d:=⟨MI h.1 e,k0 h.2 f⟩
theorem Dx{n:Nat}(h:¬1<n):¬1<(n:Int):=fun g=>h (nM.mp g)
theorem MK{s:Int}(h:¬s>0):(s.natAbs:Int)= -s:=LB (ez.mp h)
theorem ML{s:Int}(h:0≤s):(s.natAbs:Int)=s:=xJ h
theorem MM{x m y k:Nat}(h:x≤k*m)(g:y≤k):x+y≤k*(m+1):=nJ h g
theorem MN{x y k:Int}{m:Nat}(h:x≤k)(g:y≤k*(m:Int)):x+y≤k*((m+1:Nat):Int):=by rw[xI,LC,LD,rP];exact kj g h
theorem MO{x y k:Int}{m:Nat}(h: -k≤x)(g: -(k*(m:Int))≤y): -(k*((m+1:Nat):Int))≤x+y:=by rw[xI,LC,LD,Int.neg_add,rP];exact kj h g
end Mine
end
section
@[elab_as_elim] theorem Mine.eT{α:Sort _}{c:Prop}{d:Decidable c}{a b:α}{motive:α→Prop}(aa:c→motive a)(ab:¬c→motive b):motive (@ite α c d a b):=by
 by_cases h:c
 ·rw[if_pos h];exact aa h
 ·rw[if_neg h];exact ab h
end
section
local macro_rules | `(tactic| cases $h:ident) => pure (Mine.inj h)
section
open PySem PySem.W PySem.Calls PyProof.Rows
set_option Elab.async false
set_option maxRecDepth 100000
namespace Mine.H
noncomputable section
open PySem.W renaming boot_o_0→lW,boot_o_1→g4,boot_o_2→jj,boot_o_3→qB,boot_o_4→qC,boot_o_5→Dy,boot_o_6→Dz,boot_o_7→aX,boot_o_8→cq,boot_o_9→DA,boot_o_10→DB
open PySem.W.BT renaming node→N,nil→Z
noncomputable abbrev dh:Program:=PySem.Challenge.pw_tu0005_01
noncomputable def st(i:Nat):Stmt:=(dh.main.body[i]?).getD default
noncomputable def mt(i j:Nat):Stmt:=match st i with
 | .ClassDef _ _ _ b _ _ _ _ _ _ _=>(b[j]?).getD default
 |_=>default
noncomputable def c6(t:BT)(n:Nat)(l:List (Params→Obj))(P:Params):BT:=List.rec (fun t ag=>t) (fun o ag f t n=>f (t.ins n (o P)) (n+1)) l t n
noncomputable def lf:Life:=Life.mk [] [] [] 0 [] [] false #[] [] 0 false false false 0 [2000,10,10] false 0 true [] [] 0 false
noncomputable def o':Drawn:=Drawn.mk 0 0 0 0
noncomputable def ak(x:String)(t:Nat):Value:=.str (Str.ofString x) t
def c4(t:Nat):Value:=ak "/claim/cut.py" t
noncomputable def r(a:Nat):Value:=.ref a
noncomputable def i(n:Int):Value:=.int n 0
noncomputable def bU(c:String)(l:List Value)(_:Params):Obj:=⟨.type c,J,.fields l.toArray,#[]⟩
noncomputable def cD(l:List Value)(_:Params):Obj:=⟨.none,J,.fields l.toArray,#[]⟩
noncomputable def bW(l:List Value)(_:Params):Obj:=⟨.type "tuple",J,.seq l.toArray 0,#[]⟩
noncomputable def fz(f:FuncData)(_:Params):Obj:=⟨.type "function",J,.func f,#[]⟩
noncomputable def cE(f:FuncData)(_:Params):Obj:=⟨.none,J,.func f,#[]⟩
noncomputable def u(x:String):Str:=Str.ofString x
noncomputable def k(x:String)(t:Nat)(v:Value)(P:Params):DictEntry:=⟨PyData.keyHash P (Str.ofString x),.str (Str.ofString x) t,v⟩
noncomputable def fn(s:Stmt)(qual:String)(globals:Nat)(nU DC doc pm:Value)(an:Option Addr)(code mI:Value)(bi:Nat):FuncData:=match s with
 | .FunctionDef n a b _ _ _ sc _ _ _=>{name:=n,qualname:=u qual,params:=a,body:=.stmts b,scope:=sc,globals:=globals,closure:=[],defaults:=nU,kwdefaults:=DC,doc:=doc,pyModule:=pm,annotations:=an,code:=code,closureTuple:=mI,builtins:=bi}
 |_=>default
def bq(s:Stmt)(q:String):FuncData:=fn s q 0 .none .none .none .none J .none .none 0
noncomputable def d4(l:List (Params→DictEntry))(n:Nat)(P:Params):Obj:=⟨.type "dict",J,.dict (l.map fun f=>f P).toArray n,#[]⟩
noncomputable def fr(l:List (Option Value))(_:Params):Obj:=⟨.type "frame",J,.plain,l.toArray⟩
def cI(s:Stmt)(q:String)(m c:Value):=fz (fn s q 3 .none .none .none m J c .none 0)
def ed:Value:=ak "gluepage.breaks" 767
def eU:Value:=ak "gluepage.nodes" 492
def fq:Value:=ak "gluepage.scaled" 272
def gq:Value:=ak "law_tu0005_01" 1169
def jk:Value:=ak "gluepage.errors" 194
def co(A B:String)(a:Nat)(L n:Int)(x y z u v m:Nat):=bU "code" [ak A a,ak B (a+1),c4 (a+2),i L,i n,i 0,i 0,i 3,r x,.bool true,i 181,r y,.none,r z,r u,r v,i m,i L,c4 (m+1)]
def o0:=bU "code" [ak "<module>" 182,ak "<module>" 183,c4 184,i 1,i 0,i 0,i 0,i 0,r 11,.bool false,i 181,r 12,.none,.none,.none,.none,i 185,i 1,c4 186]
def a0:=fr [(I (r 13)),(I (r 3)),(I (r 3)),J,(I (ak "__main__" 164)),J,(I (r 0))]
def yh(P:Params):Heap:=⟨⟨[lW P,g4 P,jj P,qB P,qC P,Dy P,Dz P,aX P,cq P,DA P,DB P,aX P,cq P,o0 P,a0 P]⟩,lf⟩
def t0(P:Params):BT:=N (lW P) (N (g4 P) (N (qB P) (N (aX P) Z Z) (N (aX P) Z Z)) (N (Dy P) (N (DA P) Z Z) (N (o0 P) Z Z))) (N (jj P) (N (qC P) (N (cq P) Z Z) (N (cq P) Z Z)) (N (Dz P) (N (DB P) Z Z) (N (a0 P) Z Z)))
def iS:=bU "builtin_function_or_method" [.builtin "type.__prepare__",.type "type"]
def yi:=bW [r 39]
def da:List Value:=[i 1,i 0,r 20,i 5,i 0,r 27,i 9,i 0,r 48,i 11,i 0,r 60]
def t1(P:Params):BT:=c6 (((t0 P).ins 3 (d4 [k "__name__" 165 jk,k "__doc__" 166 .none,k "__package__" 167 .none,k "__loader__" 168 (.builtin "__main__.__loader__#op\x61que"),k "__spec__" 169 .none,k "__annotations__" 170 (r 6),k "__builtins__" 171 (r 4),k "__file__" 173 (c4 172),k "__cached__" 174 .none,k "_wall" 193 (r 21),k "PageError" 223 (r 39),k "BadArgument" 239 (r 52),k "BadUnit" 255 (r 64)] 13 P)).ins 12 (cD da P)) 15 [aX,cq,bW [ak "k" 190],aX,cE (bq (st 0) "_wall"),co "_wall" "_wall" 187 1 1 15 16 17 18 19 191,cI (st 0) "_wall" (ak "__main__" 164) (r 20),bW [.type "ValueError"],iS,d4 [k "__module__" 203 jk,k "__qualname__" 205 (ak "PageError" 204),k "__firstlineno__" 207 (.int 5 206),k "__init__" 216 (r 36),k "__static_attributes__" 218 (r 37)] 5,aX,cD [i 7,i 4,r 35],bU "code" [ak "PageError" 198,ak "PageError" 199,c4 200,i 5,i 0,i 0,i 0,i 0,r 25,.bool false,i 181,r 26,.none,.none,.none,.none,i 201,i 5,c4 202],fr [(I (r 27)),(I (r 3)),(I (r 24)),J,(I jk),J,(I (r 0))],bW [ak "" 208],aX,cq,bW [ak "self" 212,ak "reason" 213],aX,cE (bq (mt 2 0) "PageError.__init__"),co "__init__" "PageError.__init__" 209 7 2 30 31 32 33 34 214,fz (fn (mt 2 0) "PageError.__init__" 3 (r 29) .none .none jk J (r 35) .none 0),bW [ak "reason" 217],d4 [k "__module__" 203 jk,k "__firstlineno__" 207 (.int 5 206),k "__init__" 216 (r 36),k "__static_attributes__" 218 (r 37),k "__weakref__" 220 (r 40),k "__doc__" 221 .none] 3,fun P=>⟨(.type "type"),J,.cls ⟨u "PageError",[.type "ValueError"],[r 39,.type "ValueError",.type "Exception",.type "BaseException",.type "object"],38,u "PageError",true,[],[r 52,r 64],false,J,false⟩,#[(I (r 22)),J,(I (ak "PageError" 196)),(I (ak "PageError" 204)),(I (.builtin "ValueError.__new__")),(I (.bool true))]⟩,bU "getset_descriptor" [ak "__weakref__" 219,r 39,.builtin "ExceptionGroup.__weakref__",.none],bU "super" [r 39,r 39,r 39],bU "builtin_function_or_method" [.builtin "object.__init_subclass__",r 39],yi,iS,d4 [k "__module__" 231 jk,k "__qualname__" 233 (ak "BadArgument" 232),k "__firstlineno__" 235 (.int 9 234),k "__static_attributes__" 236 (r 50)] 4,aX,cq,bU "code" [ak "BadArgument" 226,ak "BadArgument" 227,c4 228,i 9,i 0,i 0,i 0,i 0,r 46,.bool false,i 181,r 47,.none,.none,.none,.none,i 229,i 9,c4 230],fr [(I (r 48)),(I (r 3)),(I (r 45)),J,(I jk),J,(I (r 0))],aX,d4 [k "__module__" 231 jk,k "__firstlineno__" 235 (.int 9 234),k "__static_attributes__" 236 (r 50),k "__doc__" 237 .none] 2,fun P=>⟨(.type "type"),J,.cls ⟨u "BadArgument",[r 39],[r 52,r 39,.type "ValueError",.type "Exception",.type "BaseException",.type "object"],51,u "BadArgument",true,[],[],false,J,false⟩,#[(I (r 43)),J,(I (ak "BadArgument" 224)),(I (ak "BadArgument" 232)),(I (.builtin "ValueError.__new__")),(I (.bool true))]⟩,bU "super" [r 52,r 52,r 52],bU "builtin_function_or_method" [.builtin "object.__init_subclass__",r 52],yi,iS,d4 [k "__module__" 247 jk,k "__qualname__" 249 (ak "BadUnit" 248),k "__firstlineno__" 251 (.int 11 250),k "__static_attributes__" 252 (r 62)] 4,aX,cq,bU "code" [ak "BadUnit" 242,ak "BadUnit" 243,c4 244,i 11,i 0,i 0,i 0,i 0,r 58,.bool false,i 181,r 59,.none,.none,.none,.none,i 245,i 11,c4 246],fr [(I (r 60)),(I (r 3)),(I (r 57)),J,(I jk),J,(I (r 0))],aX,d4 [k "__module__" 247 jk,k "__firstlineno__" 251 (.int 11 250),k "__static_attributes__" 252 (r 62),k "__doc__" 253 .none] 2,fun P=>⟨(.type "type"),J,.cls ⟨u "BadUnit",[r 39],[r 64,r 39,.type "ValueError",.type "Exception",.type "BaseException",.type "object"],63,u "BadUnit",true,[],[],false,J,false⟩,#[(I (r 55)),J,(I (ak "BadUnit" 240)),(I (ak "BadUnit" 248)),(I (.builtin "ValueError.__new__")),(I (.bool true))]⟩,bU "super" [r 64,r 64,r 64],bU "builtin_function_or_method" [.builtin "object.__init_subclass__",r 64]] P
def yj:=bU "tuple_iterator" [.none,i 4]
def g5:List Value:=da++[i 13,i 0,r 72,i 21,i 0,r 88,i 23,i 0,r 95,i 27,i 0,r 102,i 31,i 0,r 109,i 35,i 0,r 116,i 41,i 0,r 123,i 43,i 0,r 130,i 54,i 0,r 137,i 57,i 0,r 144,i 73,i 0,r 151,i 75,i 0,r 158]
def e1(P:Params):BT:=c6 ((((t1 P).ins 3 (d4 [k "__name__" 165 fq,k "__doc__" 166 .none,k "__package__" 167 .none,k "__loader__" 168 (.builtin "__main__.__loader__#op\x61que"),k "__spec__" 169 .none,k "__annotations__" 170 (r 6),k "__builtins__" 171 (r 4),k "__file__" 173 (c4 172),k "__cached__" 174 .none,k "_wall" 193 (r 21),k "PageError" 223 (r 39),k "BadArgument" 239 (r 52),k "BadUnit" 255 (r 64),k "Overflow" 271 (r 76),k "UNITY" 275 (.int 65536 274),k "MAX_DIMEN" 281 (.int 1073741823 280),k "MAX_NUMBER" 287 (.int 2147483647 286),k "INF_BAD" 289 (.int 10000 288),k "NORMAL" 294 (.int 0 290),k "FIL" 295 (.int 1 291),k "FILL" 296 (.int 2 292),k "FILLL" 297 (.int 3 293),k "is_whole" 306 (r 89),k "check_whole" 313 (r 96),k "check_number" 320 (r 103),k "check_dimen" 327 (r 110),k "rounded" 335 (r 117),k "reading" 343 (r 124),k "decimal_text" 356 (r 131),k "times" 365 (r 138),k "times_scaled" 366 (r 138),k "badness" 375 (r 145),k "order_text" 382 (r 152),k "part_text" 391 (r 159)] 34 P)).ins 12 (cD g5 P)).ins 39 (⟨(.type "type"),J,.cls ⟨u "PageError",[.type "ValueError"],[r 39,.type "ValueError",.type "Exception",.type "BaseException",.type "object"],38,u "PageError",true,[],[r 52,r 64,r 76],false,J,false⟩,#[(I (r 22)),J,(I (ak "PageError" 196)),(I (ak "PageError" 204)),(I (.builtin "ValueError.__new__")),(I (.bool true))]⟩)) 67 [yi,iS,d4 [k "__module__" 263 jk,k "__qualname__" 265 (ak "Overflow" 264),k "__firstlineno__" 267 (.int 13 266),k "__static_attributes__" 268 (r 74)] 4,aX,cq,bU "code" [ak "Overflow" 258,ak "Overflow" 259,c4 260,i 13,i 0,i 0,i 0,i 0,r 70,.bool false,i 181,r 71,.none,.none,.none,.none,i 261,i 13,c4 262],fr [(I (r 72)),(I (r 3)),(I (r 69)),J,(I jk),J,(I (r 0))],aX,d4 [k "__module__" 263 jk,k "__firstlineno__" 267 (.int 13 266),k "__static_attributes__" 268 (r 74),k "__doc__" 269 .none] 2,fun P=>⟨(.type "type"),J,.cls ⟨u "Overflow",[r 39],[r 76,r 39,.type "ValueError",.type "Exception",.type "BaseException",.type "object"],75,u "Overflow",true,[],[],false,J,false⟩,#[(I (r 67)),J,(I (ak "Overflow" 256)),(I (ak "Overflow" 264)),(I (.builtin "ValueError.__new__")),(I (.bool true))]⟩,bU "super" [r 76,r 76,r 76],bU "builtin_function_or_method" [.builtin "object.__init_subclass__",r 76],bW [.int 0 290,.int 1 291,.int 2 292,.int 3 293],yj,aX,bU "StopIteration" [r 81,.none,.none,.none,.bool false,.none],aX,cq,bW [ak "value" 301,ak "low" 302,ak "high" 303],aX,cE (bq (st 12) "is_whole"),co "is_whole" "is_whole" 298 21 3 83 84 85 86 87 304,cI (st 12) "is_whole" fq (r 88),aX,cq,bW [ak "value" 310],aX,cE (bq (st 13) "check_whole"),co "check_whole" "check_whole" 307 23 1 90 91 92 93 94 311,cI (st 13) "check_whole" fq (r 95),aX,cq,bW [ak "value" 317],aX,cE (bq (st 14) "check_number"),co "check_number" "check_number" 314 27 1 97 98 99 100 101 318,cI (st 14) "check_number" fq (r 102),aX,cq,bW [ak "value" 324],aX,cE (bq (st 15) "check_dimen"),co "check_dimen" "check_dimen" 321 31 1 104 105 106 107 108 325,cI (st 15) "check_dimen" fq (r 109),aX,cq,bW [ak "number" 331,ak "by" 332],aX,cE (bq (st 16) "rounded"),co "rounded" "rounded" 328 35 2 111 112 113 114 115 333,cI (st 16) "rounded" fq (r 116),aX,cq,bW [ak "whole" 339,ak "scale" 340],aX,cE (bq (st 17) "reading"),co "reading" "reading" 336 41 2 118 119 120 121 122 341,cI (st 17) "reading" fq (r 123),aX,cq,bW [ak "value" 347,ak "sign" 348,ak "points" 349,ak "part" 350,ak "scale" 351,ak "near" 352,ak "places" 353],aX,cE (bq (st 18) "decimal_text"),co "decimal_text" "decimal_text" 344 43 1 125 126 127 128 129 354,cI (st 18) "decimal_text" fq (r 130),aX,cq,bW [ak "count" 360,ak "value" 361,ak "more" 362],aX,cE (bq (st 19) "times"),co "times" "times" 357 54 3 132 133 134 135 136 363,cI (st 19) "times" fq (r 137),aX,cq,bW [ak "excess" 370,ak "total" 371,ak "ratio" 372],aX,cE (bq (st 21) "badness"),co "badness" "badness" 367 57 2 139 140 141 142 143 373,cI (st 21) "badness" fq (r 144),aX,cq,bW [ak "order" 379],aX,cE (bq (st 22) "order_text"),co "order_text" "order_text" 376 73 1 146 147 148 149 150 380,cI (st 22) "order_text" fq (r 151),aX,cq,bW [ak "value" 386,ak "order" 387,ak "unit" 388],aX,cE (bq (st 23) "part_text"),co "part_text" "part_text" 383 75 3 153 154 155 156 157 389,cI (st 23) "part_text" fq (r 158)] P
def DD:=[k "__name__" 165 eU,k "__doc__" 166 .none,k "__package__" 167 .none,k "__loader__" 168 (.builtin "__main__.__loader__#op\x61que"),k "__spec__" 169 .none,k "__annotations__" 170 (r 6),k "__builtins__" 171 (r 4),k "__file__" 173 (c4 172),k "__cached__" 174 .none,k "_wall" 193 (r 21),k "PageError" 223 (r 39),k "BadArgument" 239 (r 52),k "BadUnit" 255 (r 64),k "Overflow" 271 (r 76),k "UNITY" 275 (.int 65536 274),k "MAX_DIMEN" 281 (.int 1073741823 280),k "MAX_NUMBER" 287 (.int 2147483647 286),k "INF_BAD" 289 (.int 10000 288),k "NORMAL" 294 (.int 0 290),k "FIL" 295 (.int 1 291),k "FILL" 296 (.int 2 292),k "FILLL" 297 (.int 3 293),k "is_whole" 306 (r 89),k "check_whole" 313 (r 96),k "check_number" 320 (r 103),k "check_dimen" 327 (r 110),k "rounded" 335 (r 117),k "reading" 343 (r 124),k "decimal_text" 356 (r 131),k "times" 365 (r 138),k "times_scaled" 366 (r 138),k "badness" 375 (r 145),k "order_text" 382 (r 152),k "part_text" 391 (r 159),k "Glue" 491 (r 227),k "CHAR" 502 (.int 0 494),k "LIGATURE" 503 (.int 1 495),k "HBOX" 504 (.int 2 496),k "VBOX" 505 (.int 3 497),k "RULE" 506 (.int 4 498),k "KERN" 507 (.int 5 499),k "GLUE" 508 (.int 6 500),k "PENALTY" 509 (.int 7 501),k "DISC" 517 (.int 8 510),k "MARK" 518 (.int 9 511),k "INSERT" 519 (.int 10 512),k "ADJUST" 520 (.int 11 513),k "MATH" 521 (.int 12 514),k "SPECIAL" 522 (.int 13 515),k "UNSET" 523 (.int 14 516)]
def DE:=bU "tuple_iterator" [.none,i 7]
def jR:List Value:=g5++[i 77,i 0,r 165]
def t3(P:Params):BT:=c6 (((e1 P).ins 3 (d4 DD 50 P)).ins 12 (cD jR P)) 160 [aX,iS,d4 [k "__module__" 399 fq,k "__qualname__" 401 (ak "Glue" 400),k "__firstlineno__" 403 (.int 77 402),k "__init__" 420 (r 174),k "parts" 427 (r 181),k "same" 435 (r 188),k "added" 443 (r 195),k "times" 453 (r 202),k "over" 461 (r 209),k "negated" 468 (r 216),k "text" 478 (r 224),k "__static_attributes__" 484 (r 225)] 12,aX,cD [i 79,i 4,r 173,i 88,i 4,r 180,i 91,i 4,r 187,i 94,i 4,r 194,i 97,i 4,r 201,i 101,i 4,r 208,i 104,i 4,r 215,i 107,i 4,r 223],bU "code" [ak "Glue" 394,ak "Glue" 395,c4 396,i 77,i 0,i 0,i 0,i 0,r 163,.bool false,i 181,r 164,.none,.none,.none,.none,i 397,i 77,c4 398],fr [(I (r 165)),(I (r 3)),(I (r 162)),J,(I fq),J,(I (r 0))],bW [.int 0 404,.int 0 405,.int 0 406,.int 0 407,.int 0 408],aX,cq,bW [ak "self" 412,ak "width" 413,ak "stretch" 414,ak "stretch_order" 415,ak "shrink" 416,ak "shrink_order" 417],aX,cE (bq (mt 24 0) "Glue.__init__"),co "__init__" "Glue.__init__" 409 79 6 168 169 170 171 172 418,fz (fn (mt 24 0) "Glue.__init__" 3 (r 167) .none .none fq J (r 173) .none 0),aX,cq,bW [ak "self" 424],aX,cE (bq (mt 24 1) "Glue.parts"),co "parts" "Glue.parts" 421 88 1 175 176 177 178 179 425,cI (mt 24 1) "Glue.parts" fq (r 180),aX,cq,bW [ak "self" 431,ak "other" 432],aX,cE (bq (mt 24 2) "Glue.same"),co "same" "Glue.same" 428 91 2 182 183 184 185 186 433,cI (mt 24 2) "Glue.same" fq (r 187),aX,cq,bW [ak "self" 439,ak "other" 440],aX,cE (bq (mt 24 3) "Glue.added"),co "added" "Glue.added" 436 94 2 189 190 191 192 193 441,cI (mt 24 3) "Glue.added" fq (r 194),aX,cq,bW [ak "self" 447,ak "count" 448,ak "stretch" 449,ak "shrink" 450],aX,cE (bq (mt 24 4) "Glue.times"),co "times" "Glue.times" 444 97 2 196 197 198 199 200 451,cI (mt 24 4) "Glue.times" fq (r 201),aX,cq,bW [ak "self" 457,ak "by" 458],aX,cE (bq (mt 24 5) "Glue.over"),co "over" "Glue.over" 454 101 2 203 204 205 206 207 459,cI (mt 24 5) "Glue.over" fq (r 208),aX,cq,bW [ak "self" 465],aX,cE (bq (mt 24 6) "Glue.negated"),co "negated" "Glue.negated" 462 104 1 210 211 212 213 214 466,cI (mt 24 6) "Glue.negated" fq (r 215),bW [ak "pt" 469],aX,cq,bW [ak "self" 473,ak "unit" 474,ak "found" 475],aX,cE (bq (mt 24 7) "Glue.text"),co "text" "Glue.text" 470 107 2 218 219 220 221 222 476,fz (fn (mt 24 7) "Glue.text" 3 (r 217) .none .none fq J (r 223) .none 0),bW [ak "shrink" 479,ak "shrink_order" 480,ak "stretch" 481,ak "stretch_order" 482,ak "width" 483],d4 [k "__module__" 399 fq,k "__firstlineno__" 403 (.int 77 402),k "__init__" 420 (r 174),k "parts" 427 (r 181),k "same" 435 (r 188),k "added" 443 (r 195),k "times" 453 (r 202),k "over" 461 (r 209),k "negated" 468 (r 216),k "text" 478 (r 224),k "__static_attributes__" 484 (r 225),k "__dict__" 486 (r 228),k "__weakref__" 488 (r 229),k "__doc__" 489 .none] 4,fun P=>⟨(.type "type"),J,.cls ⟨u "Glue",[.type "object"],[r 227,.type "object"],226,u "Glue",true,[],[],false,J,false⟩,#[J,J,(I (ak "Glue" 392)),(I (ak "Glue" 400)),(I (.builtin "object.__new__")),(I (.bool true))]⟩,bU "getset_descriptor" [ak "__dict__" 485,r 227,.builtin "function.__dict__",.builtin "function.__dict__#set"],bU "getset_descriptor" [ak "__weakref__" 487,r 227,.builtin "ExceptionGroup.__weakref__",.none],bU "super" [r 227,r 227,r 227],bU "builtin_function_or_method" [.builtin "object.__init_subclass__",r 227],bW [.int 0 494,.int 1 495,.int 2 496,.int 3 497,.int 4 498,.int 5 499,.int 6 500,.int 7 501],bU "tuple_iterator" [.none,i 8],aX,bU "StopIteration" [r 234,.none,.none,.none,.bool false,.none],bW [.int 8 510,.int 9 511,.int 10 512,.int 11 513,.int 12 514,.int 13 515,.int 14 516],DE,aX,bU "StopIteration" [r 238,.none,.none,.none,.bool false,.none]] P
def DF:=(DD++[k "NATURAL" 527 (.int 0 524),k "STRETCHED" 528 (.int 1 525),k "SHRUNK" 529 (.int 2 526),k "FONT_KERN" 534 (.int 0 530),k "EXPLICIT" 535 (.int 1 531),k "ACCENT_KERN" 536 (.int 2 532),k "MU_KERN" 537 (.int 3 533),k "PLAIN" 545 (.int 0 538),k "ALEADERS" 546 (.int 1 539),k "CLEADERS" 547 (.int 2 540),k "XLEADERS" 548 (.int 3 541),k "MU_SKIP" 549 (.int 4 542),k "NONSCRIPT" 550 (.int 5 543),k "NAMED" 551 (.int 100 544),k "check_short" 559 (r 258),k "Box" 600 (r 275)])
def jl:List Value:=jR++[i 120,i 0,r 257,i 125,i 0,r 264]
def lX(P:Params):BT:=c6 (((t3 P).ins 3 (d4 DF 66 P)).ins 12 (cD jl P)) 240 [bW [.int 0 524,.int 1 525,.int 2 526],bU "tuple_iterator" [.none,i 3],aX,bU "StopIteration" [r 242,.none,.none,.none,.bool false,.none],bW [.int 0 530,.int 1 531,.int 2 532,.int 3 533],yj,aX,bU "StopIteration" [r 246,.none,.none,.none,.bool false,.none],bW [.int 0 538,.int 1 539,.int 2 540,.int 3 541,.int 4 542,.int 5 543,.int 100 544],DE,aX,bU "StopIteration" [r 250,.none,.none,.none,.bool false,.none],aX,cq,bW [ak "items" 555,ak "node" 556],aX,cE (bq (st 31) "check_short"),co "check_short" "check_short" 552 120 1 252 253 254 255 256 557,cI (st 31) "check_short" eU (r 257),aX,iS,d4 [k "__module__" 567 eU,k "__qualname__" 569 (ak "Box" 568),k "__firstlineno__" 571 (.int 125 570),k "__init__" 583 (r 272),k "__static_attributes__" 593 (r 273)] 5,aX,cD [i 127,i 4,r 271],bU "code" [ak "Box" 562,ak "Box" 563,c4 564,i 125,i 0,i 0,i 0,i 0,r 262,.bool false,i 181,r 263,.none,.none,.none,.none,i 565,i 125,c4 566],fr [(I (r 264)),(I (r 3)),(I (r 261)),J,(I eU),J,(I (r 0))],aX,cq,bW [ak "self" 575,ak "kind" 576,ak "width" 577,ak "height" 578,ak "depth" 579,ak "items" 580],aX,cE (bq (mt 32 0) "Box.__init__"),co "__init__" "Box.__init__" 572 127 6 266 267 268 269 270 581,cI (mt 32 0) "Box.__init__" eU (r 271),bW [ak "depth" 584,ak "height" 585,ak "items" 586,ak "kind" 587,ak "order" 588,ak "ratio" 589,ak "shift" 590,ak "sign" 591,ak "width" 592],d4 [k "__module__" 567 eU,k "__firstlineno__" 571 (.int 125 570),k "__init__" 583 (r 272),k "__static_attributes__" 593 (r 273),k "__dict__" 595 (r 276),k "__weakref__" 597 (r 277),k "__doc__" 598 .none] 4,fun P=>⟨(.type "type"),J,.cls ⟨u "Box",[.type "object"],[r 275,.type "object"],274,u "Box",true,[],[],false,J,false⟩,#[J,J,(I (ak "Box" 560)),(I (ak "Box" 568)),(I (.builtin "object.__new__")),(I (.bool true))]⟩,bU "getset_descriptor" [ak "__dict__" 594,r 275,.builtin "function.__dict__",.builtin "function.__dict__#set"],bU "getset_descriptor" [ak "__weakref__" 596,r 275,.builtin "ExceptionGroup.__weakref__",.none],bU "super" [r 275,r 275,r 275],bU "builtin_function_or_method" [.builtin "object.__init_subclass__",r 275]] P
def h3:List Value:=jl++[i 139,i 0,r 285,i 147,i 0,r 306,i 160,i 0,r 328]
def r6(P:Params):BT:=c6 (((lX P).ins 3 (d4 (DF++[k "Kern" 632 (r 296),k "Skip" 666 (r 318),k "Penalty" 696 (r 339)]) 69 P)).ins 12 (cD h3 P)) 280 [aX,iS,d4 [k "__module__" 608 eU,k "__qualname__" 610 (ak "Kern" 609),k "__firstlineno__" 612 (.int 139 611),k "kind" 613 (.int 5 499),k "__init__" 622 (r 293),k "__static_attributes__" 625 (r 294)] 6,aX,cD [i 142,i 4,r 292],bU "code" [ak "Kern" 603,ak "Kern" 604,c4 605,i 139,i 0,i 0,i 0,i 0,r 283,.bool false,i 181,r 284,.none,.none,.none,.none,i 606,i 139,c4 607],fr [(I (r 285)),(I (r 3)),(I (r 282)),J,(I eU),J,(I (r 0))],aX,cq,bW [ak "self" 617,ak "width" 618,ak "sort" 619],aX,cE (bq (mt 33 1) "Kern.__init__"),co "__init__" "Kern.__init__" 614 142 3 287 288 289 290 291 620,cI (mt 33 1) "Kern.__init__" eU (r 292),bW [ak "sort" 623,ak "width" 624],d4 [k "__module__" 608 eU,k "__firstlineno__" 612 (.int 139 611),k "kind" 613 (.int 5 499),k "__init__" 622 (r 293),k "__static_attributes__" 625 (r 294),k "__dict__" 627 (r 297),k "__weakref__" 629 (r 298),k "__doc__" 630 .none] 4,fun P=>⟨(.type "type"),J,.cls ⟨u "Kern",[.type "object"],[r 296,.type "object"],295,u "Kern",true,[],[],false,J,false⟩,#[J,J,(I (ak "Kern" 601)),(I (ak "Kern" 609)),(I (.builtin "object.__new__")),(I (.bool true))]⟩,bU "getset_descriptor" [ak "__dict__" 626,r 296,.builtin "function.__dict__",.builtin "function.__dict__#set"],bU "getset_descriptor" [ak "__weakref__" 628,r 296,.builtin "ExceptionGroup.__weakref__",.none],bU "super" [r 296,r 296,r 296],bU "builtin_function_or_method" [.builtin "object.__init_subclass__",r 296],aX,iS,d4 [k "__module__" 640 eU,k "__qualname__" 642 (ak "Skip" 641),k "__firstlineno__" 644 (.int 147 643),k "kind" 645 (.int 6 500),k "__init__" 655 (r 315),k "__static_attributes__" 659 (r 316)] 6,aX,cD [i 150,i 4,r 314],bU "code" [ak "Skip" 635,ak "Skip" 636,c4 637,i 147,i 0,i 0,i 0,i 0,r 304,.bool false,i 181,r 305,.none,.none,.none,.none,i 638,i 147,c4 639],fr [(I (r 306)),(I (r 3)),(I (r 303)),J,(I eU),J,(I (r 0))],bW [.none],aX,cq,bW [ak "self" 649,ak "glue" 650,ak "sort" 651,ak "leader" 652],aX,cE (bq (mt 34 1) "Skip.__init__"),co "__init__" "Skip.__init__" 646 150 4 309 310 311 312 313 653,fz (fn (mt 34 1) "Skip.__init__" 3 (r 308) .none .none eU J (r 314) .none 0),bW [ak "glue" 656,ak "leader" 657,ak "sort" 658],d4 [k "__module__" 640 eU,k "__firstlineno__" 644 (.int 147 643),k "kind" 645 (.int 6 500),k "__init__" 655 (r 315),k "__static_attributes__" 659 (r 316),k "__dict__" 661 (r 319),k "__weakref__" 663 (r 320),k "__doc__" 664 .none] 4,fun P=>⟨(.type "type"),J,.cls ⟨u "Skip",[.type "object"],[r 318,.type "object"],317,u "Skip",true,[],[],false,J,false⟩,#[J,J,(I (ak "Skip" 633)),(I (ak "Skip" 641)),(I (.builtin "object.__new__")),(I (.bool true))]⟩,bU "getset_descriptor" [ak "__dict__" 660,r 318,.builtin "function.__dict__",.builtin "function.__dict__#set"],bU "getset_descriptor" [ak "__weakref__" 662,r 318,.builtin "ExceptionGroup.__weakref__",.none],bU "super" [r 318,r 318,r 318],bU "builtin_function_or_method" [.builtin "object.__init_subclass__",r 318],aX,iS,d4 [k "__module__" 674 eU,k "__qualname__" 676 (ak "Penalty" 675),k "__firstlineno__" 678 (.int 160 677),k "kind" 679 (.int 7 501),k "__init__" 687 (r 336),k "__static_attributes__" 689 (r 337)] 6,aX,cD [i 163,i 4,r 335],bU "code" [ak "Penalty" 669,ak "Penalty" 670,c4 671,i 160,i 0,i 0,i 0,i 0,r 326,.bool false,i 181,r 327,.none,.none,.none,.none,i 672,i 160,c4 673],fr [(I (r 328)),(I (r 3)),(I (r 325)),J,(I eU),J,(I (r 0))],aX,cq,bW [ak "self" 683,ak "value" 684],aX,cE (bq (mt 35 1) "Penalty.__init__"),co "__init__" "Penalty.__init__" 680 163 2 330 331 332 333 334 685,cI (mt 35 1) "Penalty.__init__" eU (r 335),bW [ak "value" 688],d4 [k "__module__" 674 eU,k "__firstlineno__" 678 (.int 160 677),k "kind" 679 (.int 7 501),k "__init__" 687 (r 336),k "__static_attributes__" 689 (r 337),k "__dict__" 691 (r 340),k "__weakref__" 693 (r 341),k "__doc__" 694 .none] 4,fun P=>⟨(.type "type"),J,.cls ⟨u "Penalty",[.type "object"],[r 339,.type "object"],338,u "Penalty",true,[],[],false,J,false⟩,#[J,J,(I (ak "Penalty" 667)),(I (ak "Penalty" 675)),(I (.builtin "object.__new__")),(I (.bool true))]⟩,bU "getset_descriptor" [ak "__dict__" 690,r 339,.builtin "function.__dict__",.builtin "function.__dict__#set"],bU "getset_descriptor" [ak "__weakref__" 692,r 339,.builtin "ExceptionGroup.__weakref__",.none],bU "super" [r 339,r 339,r 339],bU "builtin_function_or_method" [.builtin "object.__init_subclass__",r 339]] P
def DG:=[k "__name__" 165 ed,k "__doc__" 166 .none,k "__package__" 167 .none,k "__loader__" 168 (.builtin "__main__.__loader__#op\x61que"),k "__spec__" 169 .none,k "__annotations__" 170 (r 6),k "__builtins__" 171 (r 4),k "__file__" 173 (c4 172),k "__cached__" 174 .none,k "_wall" 193 (r 21),k "PageError" 223 (r 39),k "BadArgument" 239 (r 52),k "BadUnit" 255 (r 64),k "Overflow" 271 (r 76),k "UNITY" 275 (.int 65536 274),k "MAX_DIMEN" 281 (.int 1073741823 280),k "MAX_NUMBER" 287 (.int 2147483647 286),k "INF_BAD" 289 (.int 10000 288),k "NORMAL" 294 (.int 0 290),k "FIL" 295 (.int 1 291),k "FILL" 296 (.int 2 292),k "FILLL" 297 (.int 3 293),k "is_whole" 306 (r 89),k "check_whole" 313 (r 96),k "check_number" 320 (r 103),k "check_dimen" 327 (r 110),k "rounded" 335 (r 117),k "reading" 343 (r 124),k "decimal_text" 356 (r 131),k "times" 365 (r 138),k "times_scaled" 366 (r 138),k "badness" 375 (r 145),k "order_text" 382 (r 152),k "part_text" 391 (r 159),k "Glue" 491 (r 227),k "CHAR" 502 (.int 0 494),k "LIGATURE" 503 (.int 1 495),k "HBOX" 504 (.int 2 496),k "VBOX" 505 (.int 3 497),k "RULE" 506 (.int 4 498),k "KERN" 507 (.int 5 499),k "GLUE" 508 (.int 6 500),k "PENALTY" 509 (.int 7 501),k "DISC" 517 (.int 8 510),k "MARK" 518 (.int 9 511),k "INSERT" 519 (.int 10 512),k "ADJUST" 520 (.int 11 513),k "MATH" 521 (.int 12 514),k "SPECIAL" 522 (.int 13 515),k "UNSET" 523 (.int 14 516),k "NATURAL" 527 (.int 0 524),k "STRETCHED" 528 (.int 1 525),k "SHRUNK" 529 (.int 2 526),k "FONT_KERN" 534 (.int 0 530),k "EXPLICIT" 535 (.int 1 531),k "ACCENT_KERN" 536 (.int 2 532),k "MU_KERN" 537 (.int 3 533),k "PLAIN" 545 (.int 0 538),k "ALEADERS" 546 (.int 1 539),k "CLEADERS" 547 (.int 2 540),k "XLEADERS" 548 (.int 3 541),k "MU_SKIP" 549 (.int 4 542),k "NONSCRIPT" 550 (.int 5 543),k "NAMED" 551 (.int 100 544),k "check_short" 559 (r 258),k "Box" 600 (r 275),k "Kern" 632 (r 296),k "Skip" 666 (r 318),k "Penalty" 696 (r 339),k "Disc" 730 (r 360),k "Mark" 760 (r 381),k "width_of" 766 (r 390),k "EJECT" 772 (.int (-10000) 770),k "FORBID" 773 (.int 10000 771),k "VERY_LOOSE" 778 (.int 0 774),k "LOOSE_FIT" 779 (.int 1 775),k "DECENT_FIT" 780 (.int 2 776),k "TIGHT_FIT" 781 (.int 3 777),k "PLAIN_BREAK" 784 (.int 0 782),k "HYPHEN_BREAK" 785 (.int 1 783),k "TOO_LONG" 788 (.int 10001 787),k "WORST_LINE" 790 (.int 100000000 789),k "NO_SUMS" 797 (r 403)]
def DH:=bU "tuple_iterator" [.none,i 2]
def uI:List Value:=h3++[i 165,i 0,r 349,i 172,i 0,r 370,i 177,i 0,r 389]
def pa(P:Params):BT:=c6 (((r6 P).ins 3 (d4 DG 83 P)).ins 12 (cD uI P)) 344 [aX,iS,d4 [k "__module__" 704 eU,k "__qualname__" 706 (ak "Disc" 705),k "__firstlineno__" 708 (.int 165 707),k "kind" 709 (.int 8 510),k "__init__" 719 (r 357),k "__static_attributes__" 723 (r 358)] 6,aX,cD [i 168,i 4,r 356],bU "code" [ak "Disc" 699,ak "Disc" 700,c4 701,i 165,i 0,i 0,i 0,i 0,r 347,.bool false,i 181,r 348,.none,.none,.none,.none,i 702,i 165,c4 703],fr [(I (r 349)),(I (r 3)),(I (r 346)),J,(I eU),J,(I (r 0))],aX,cq,bW [ak "self" 713,ak "pre" 714,ak "post" 715,ak "middle" 716],aX,cE (bq (mt 36 1) "Disc.__init__"),co "__init__" "Disc.__init__" 710 168 4 351 352 353 354 355 717,cI (mt 36 1) "Disc.__init__" eU (r 356),bW [ak "middle" 720,ak "post" 721,ak "pre" 722],d4 [k "__module__" 704 eU,k "__firstlineno__" 708 (.int 165 707),k "kind" 709 (.int 8 510),k "__init__" 719 (r 357),k "__static_attributes__" 723 (r 358),k "__dict__" 725 (r 361),k "__weakref__" 727 (r 362),k "__doc__" 728 .none] 4,fun P=>⟨(.type "type"),J,.cls ⟨u "Disc",[.type "object"],[r 360,.type "object"],359,u "Disc",true,[],[],false,J,false⟩,#[J,J,(I (ak "Disc" 697)),(I (ak "Disc" 705)),(I (.builtin "object.__new__")),(I (.bool true))]⟩,bU "getset_descriptor" [ak "__dict__" 724,r 360,.builtin "function.__dict__",.builtin "function.__dict__#set"],bU "getset_descriptor" [ak "__weakref__" 726,r 360,.builtin "ExceptionGroup.__weakref__",.none],bU "super" [r 360,r 360,r 360],bU "builtin_function_or_method" [.builtin "object.__init_subclass__",r 360],aX,iS,d4 [k "__module__" 738 eU,k "__qualname__" 740 (ak "Mark" 739),k "__firstlineno__" 742 (.int 172 741),k "kind" 743 (.int 9 511),k "__init__" 751 (r 378),k "__static_attributes__" 753 (r 379)] 6,aX,cD [i 175,i 4,r 377],bU "code" [ak "Mark" 733,ak "Mark" 734,c4 735,i 172,i 0,i 0,i 0,i 0,r 368,.bool false,i 181,r 369,.none,.none,.none,.none,i 736,i 172,c4 737],fr [(I (r 370)),(I (r 3)),(I (r 367)),J,(I eU),J,(I (r 0))],aX,cq,bW [ak "self" 747,ak "tokens" 748],aX,cE (bq (mt 37 1) "Mark.__init__"),co "__init__" "Mark.__init__" 744 175 2 372 373 374 375 376 749,cI (mt 37 1) "Mark.__init__" eU (r 377),bW [ak "tokens" 752],d4 [k "__module__" 738 eU,k "__firstlineno__" 742 (.int 172 741),k "kind" 743 (.int 9 511),k "__init__" 751 (r 378),k "__static_attributes__" 753 (r 379),k "__dict__" 755 (r 382),k "__weakref__" 757 (r 383),k "__doc__" 758 .none] 4,fun P=>⟨(.type "type"),J,.cls ⟨u "Mark",[.type "object"],[r 381,.type "object"],380,u "Mark",true,[],[],false,J,false⟩,#[J,J,(I (ak "Mark" 731)),(I (ak "Mark" 739)),(I (.builtin "object.__new__")),(I (.bool true))]⟩,bU "getset_descriptor" [ak "__dict__" 754,r 381,.builtin "function.__dict__",.builtin "function.__dict__#set"],bU "getset_descriptor" [ak "__weakref__" 756,r 381,.builtin "ExceptionGroup.__weakref__",.none],bU "super" [r 381,r 381,r 381],bU "builtin_function_or_method" [.builtin "object.__init_subclass__",r 381],aX,cq,cE (bq (st 38) "width_of"),bU "code" [ak "width_of" 761,ak "width_of" 762,c4 763,i 177,i 1,i 0,i 0,i 3,r 386,.bool true,i 181,r 387,.none,.none,.none,r 388,i 764,i 177,c4 765],cI (st 38) "width_of" eU (r 389),bW [(.int (-10000) 770),.int 10000 771],DH,aX,bU "StopIteration" [r 393,.none,.none,.none,.bool false,.none],bW [.int 0 774,.int 1 775,.int 2 776,.int 3 777],yj,aX,bU "StopIteration" [r 397,.none,.none,.none,.bool false,.none],bW [.int 0 782,.int 1 783],DH,aX,bU "StopIteration" [r 401,.none,.none,.none,.bool false,.none],bW [.int 0 791,.int 0 792,.int 0 793,.int 0 794,.int 0 795,.int 0 796]] P
def DI:=(DG++[k "Shape" 848 (r 434),k "Settings" 887 (r 455),k "Way" 924 (r 476)])
def DJ:List Value:=uI++[i 197,i 0,r 409,i 223,i 0,r 444,i 238,i 0,r 465]
def yk(P:Params):BT:=c6 (((pa P).ins 3 (d4 DI 86 P)).ins 12 (cD DJ P)) 404 [aX,iS,d4 [k "__module__" 805 ed,k "__qualname__" 807 (ak "Shape" 806),k "__firstlineno__" 809 (.int 197 808),k "__init__" 818 (r 417),k "special" 825 (r 424),k "line" 834 (r 431),k "__static_attributes__" 841 (r 432)] 7,aX,cD [i 199,i 4,r 416,i 209,i 4,r 423,i 214,i 4,r 430],bU "code" [ak "Shape" 800,ak "Shape" 801,c4 802,i 197,i 0,i 0,i 0,i 0,r 407,.bool false,i 181,r 408,.none,.none,.none,.none,i 803,i 197,c4 804],fr [(I (r 409)),(I (r 3)),(I (r 406)),J,(I ed),J,(I (r 0))],aX,bW [.int 0 810,.int 1 811,r 411,.int 0 812],aX,cq,cE (bq (mt 46 0) "Shape.__init__"),bU "code" [ak "__init__" 813,ak "Shape.__init__" 814,c4 815,i 199,i 6,i 0,i 0,i 3,r 413,.bool true,i 181,r 414,.none,.none,.none,r 415,i 816,i 199,c4 817],fz (fn (mt 46 0) "Shape.__init__" 3 (r 412) .none .none ed J (r 416) .none 0),aX,cq,bW [ak "self" 822],aX,cE (bq (mt 46 1) "Shape.special"),co "special" "Shape.special" 819 209 1 418 419 420 421 422 823,cI (mt 46 1) "Shape.special" ed (r 423),aX,cq,bW [ak "self" 829,ak "number" 830,ak "is_hung" 831],aX,cE (bq (mt 46 2) "Shape.line"),co "line" "Shape.line" 826 214 2 425 426 427 428 429 832,cI (mt 46 2) "Shape.line" ed (r 430),bW [ak "done" 835,ak "hang_after" 836,ak "hang_indent" 837,ak "narrow" 838,ak "rows" 839,ak "width" 840],d4 [k "__module__" 805 ed,k "__firstlineno__" 809 (.int 197 808),k "__init__" 818 (r 417),k "special" 825 (r 424),k "line" 834 (r 431),k "__static_attributes__" 841 (r 432),k "__dict__" 843 (r 435),k "__weakref__" 845 (r 436),k "__doc__" 846 .none] 4,fun P=>⟨(.type "type"),J,.cls ⟨u "Shape",[.type "object"],[r 434,.type "object"],433,u "Shape",true,[],[],false,J,false⟩,#[J,J,(I (ak "Shape" 798)),(I (ak "Shape" 806)),(I (.builtin "object.__new__")),(I (.bool true))]⟩,bU "getset_descriptor" [ak "__dict__" 842,r 434,.builtin "function.__dict__",.builtin "function.__dict__#set"],bU "getset_descriptor" [ak "__weakref__" 844,r 434,.builtin "ExceptionGroup.__weakref__",.none],bU "super" [r 434,r 434,r 434],bU "builtin_function_or_method" [.builtin "object.__init_subclass__",r 434],aX,iS,d4 [k "__module__" 856 ed,k "__qualname__" 858 (ak "Settings" 857),k "__firstlineno__" 860 (.int 223 859),k "__init__" 867 (r 452),k "__static_attributes__" 880 (r 453)] 5,aX,cD [i 225,i 4,r 451],bU "code" [ak "Settings" 851,ak "Settings" 852,c4 853,i 223,i 0,i 0,i 0,i 0,r 442,.bool false,i 181,r 443,.none,.none,.none,.none,i 854,i 223,c4 855],fr [(I (r 444)),(I (r 3)),(I (r 441)),J,(I ed),J,(I (r 0))],aX,cq,bW [ak "self" 864],aX,cE (bq (mt 47 0) "Settings.__init__"),co "__init__" "Settings.__init__" 861 225 1 446 447 448 449 450 865,cI (mt 47 0) "Settings.__init__" ed (r 451),bW [ak "adjacent" 868,ak "double_hyphen" 869,ak "emergency" 870,ak "ex_hyphen_penalty" 871,ak "final_hyphen" 872,ak "hyphen_penalty" 873,ak "left_skip" 874,ak "line_penalty" 875,ak "looseness" 876,ak "pretolerance" 877,ak "right_skip" 878,ak "tolerance" 879],d4 [k "__module__" 856 ed,k "__firstlineno__" 860 (.int 223 859),k "__init__" 867 (r 452),k "__static_attributes__" 880 (r 453),k "__dict__" 882 (r 456),k "__weakref__" 884 (r 457),k "__doc__" 885 .none] 4,fun P=>⟨(.type "type"),J,.cls ⟨u "Settings",[.type "object"],[r 455,.type "object"],454,u "Settings",true,[],[],false,J,false⟩,#[J,J,(I (ak "Settings" 849)),(I (ak "Settings" 857)),(I (.builtin "object.__new__")),(I (.bool true))]⟩,bU "getset_descriptor" [ak "__dict__" 881,r 455,.builtin "function.__dict__",.builtin "function.__dict__#set"],bU "getset_descriptor" [ak "__weakref__" 883,r 455,.builtin "ExceptionGroup.__weakref__",.none],bU "super" [r 455,r 455,r 455],bU "builtin_function_or_method" [.builtin "object.__init_subclass__",r 455],aX,iS,d4 [k "__module__" 895 ed,k "__qualname__" 897 (ak "Way" 896),k "__firstlineno__" 899 (.int 238 898),k "__init__" 911 (r 473),k "__static_attributes__" 917 (r 474)] 5,aX,cD [i 240,i 4,r 472],bU "code" [ak "Way" 890,ak "Way" 891,c4 892,i 238,i 0,i 0,i 0,i 0,r 463,.bool false,i 181,r 464,.none,.none,.none,.none,i 893,i 238,c4 894],fr [(I (r 465)),(I (r 3)),(I (r 462)),J,(I ed),J,(I (r 0))],aX,cq,bW [ak "self" 903,ak "spot" 904,ak "line" 905,ak "fit" 906,ak "demerits" 907,ak "before" 908],aX,cE (bq (mt 48 0) "Way.__init__"),co "__init__" "Way.__init__" 900 240 6 467 468 469 470 471 909,cI (mt 48 0) "Way.__init__" ed (r 472),bW [ak "before" 912,ak "demerits" 913,ak "fit" 914,ak "line" 915,ak "spot" 916],d4 [k "__module__" 895 ed,k "__firstlineno__" 899 (.int 238 898),k "__init__" 911 (r 473),k "__static_attributes__" 917 (r 474),k "__dict__" 919 (r 477),k "__weakref__" 921 (r 478),k "__doc__" 922 .none] 4,fun P=>⟨(.type "type"),J,.cls ⟨u "Way",[.type "object"],[r 476,.type "object"],475,u "Way",true,[],[],false,J,false⟩,#[J,J,(I (ak "Way" 888)),(I (ak "Way" 896)),(I (.builtin "object.__new__")),(I (.bool true))]⟩,bU "getset_descriptor" [ak "__dict__" 918,r 476,.builtin "function.__dict__",.builtin "function.__dict__#set"],bU "getset_descriptor" [ak "__weakref__" 920,r 476,.builtin "ExceptionGroup.__weakref__",.none],bU "super" [r 476,r 476,r 476],bU "builtin_function_or_method" [.builtin "object.__init_subclass__",r 476]] P
def DK:List Value:=DJ++[i 246,i 0,r 486,i 255,i 0,r 507,i 259,i 0,r 514,i 261,i 0,r 521,i 285,i 0,r 528,i 293,i 0,r 535,i 299,i 0,r 542,i 304,i 0,r 549,i 316,i 0,r 556,i 318,i 0,r 563,i 329,i 0,r 570,i 335,i 0,r 575,i 337,i 0,r 582,i 350,i 0,r 589,i 358,i 0,r 596,i 365,i 0,r 603,i 394,i 0,r 610,i 407,i 0,r 617]
def yl(P:Params):BT:=c6 (((yk P).ins 3 (d4 (DI++[k "Trial" 962 (r 497),k "check_settings" 970 (r 508),k "is_dropped" 977 (r 515),k "legal_breaks" 993 (r 522),k "start_behind" 1001 (r 529),k "add_glue" 1009 (r 536),k "wide" 1018 (r 543),k "sums_ahead" 1028 (r 550),k "widened" 1036 (r 557),k "spots" 1052 (r 564),k "ground_of" 1061 (r 571),k "line_totals" 1067 (r 576),k "fitted" 1077 (r 583),k "line_demerits" 1088 (r 590),k "pair_demerits" 1099 (r 597),k "ways_to" 1128 (r 604),k "picked" 1142 (r 611),k "places_of" 1150 (r 618)]) 104 P)).ins 12 (cD DK P)) 481 [aX,iS,d4 [k "__module__" 932 ed,k "__qualname__" 934 (ak "Trial" 933),k "__firstlineno__" 936 (.int 246 935),k "__init__" 948 (r 494),k "__static_attributes__" 955 (r 495)] 5,aX,cD [i 248,i 4,r 493],bU "code" [ak "Trial" 927,ak "Trial" 928,c4 929,i 246,i 0,i 0,i 0,i 0,r 484,.bool false,i 181,r 485,.none,.none,.none,.none,i 930,i 246,c4 931],fr [(I (r 486)),(I (r 3)),(I (r 483)),J,(I ed),J,(I (r 0))],aX,cq,bW [ak "self" 940,ak "settings" 941,ak "shape" 942,ak "most" 943,ak "ground" 944,ak "is_last" 945],aX,cE (bq (mt 49 0) "Trial.__init__"),co "__init__" "Trial.__init__" 937 248 6 488 489 490 491 492 946,cI (mt 49 0) "Trial.__init__" ed (r 493),bW [ak "apart" 949,ak "ground" 950,ak "is_last" 951,ak "most" 952,ak "settings" 953,ak "shape" 954],d4 [k "__module__" 932 ed,k "__firstlineno__" 936 (.int 246 935),k "__init__" 948 (r 494),k "__static_attributes__" 955 (r 495),k "__dict__" 957 (r 498),k "__weakref__" 959 (r 499),k "__doc__" 960 .none] 4,fun P=>⟨(.type "type"),J,.cls ⟨u "Trial",[.type "object"],[r 497,.type "object"],496,u "Trial",true,[],[],false,J,false⟩,#[J,J,(I (ak "Trial" 925)),(I (ak "Trial" 933)),(I (.builtin "object.__new__")),(I (.bool true))]⟩,bU "getset_descriptor" [ak "__dict__" 956,r 497,.builtin "function.__dict__",.builtin "function.__dict__#set"],bU "getset_descriptor" [ak "__weakref__" 958,r 497,.builtin "ExceptionGroup.__weakref__",.none],bU "super" [r 497,r 497,r 497],bU "builtin_function_or_method" [.builtin "object.__init_subclass__",r 497],aX,cq,bW [ak "settings" 966,ak "value" 967],aX,cE (bq (st 50) "check_settings"),co "check_settings" "check_settings" 963 255 1 502 503 504 505 506 968,cI (st 50) "check_settings" ed (r 507),aX,cq,bW [ak "node" 974],aX,cE (bq (st 51) "is_dropped"),co "is_dropped" "is_dropped" 971 259 1 509 510 511 512 513 975,cI (st 51) "is_dropped" ed (r 514),aX,cq,bW [ak "items" 981,ak "settings" 982,ak "found" 983,ak "may" 984,ak "is_behind" 985,ak "place" 986,ak "node" 987,ak "kind" 988,ak "penalty" 989,ak "sort" 990],aX,cE (bq (st 52) "legal_breaks"),co "legal_breaks" "legal_breaks" 978 261 2 516 517 518 519 520 991,cI (st 52) "legal_breaks" ed (r 521),aX,cq,bW [ak "items" 997,ak "place" 998],aX,cE (bq (st 53) "start_behind"),co "start_behind" "start_behind" 994 285 2 523 524 525 526 527 999,cI (st 53) "start_behind" ed (r 528),aX,cq,bW [ak "row" 1005,ak "glue" 1006],aX,cE (bq (st 54) "add_glue"),co "add_glue" "add_glue" 1002 293 2 530 531 532 533 534 1007,cI (st 54) "add_glue" ed (r 535),aX,cq,bW [ak "items" 1013,ak "found" 1014,ak "node" 1015],aX,cE (bq (st 55) "wide"),co "wide" "wide" 1010 299 1 537 538 539 540 541 1016,cI (st 55) "wide" ed (r 542),aX,cq,bW [ak "items" 1022,ak "row" 1023,ak "found" 1024,ak "node" 1025],aX,cE (bq (st 56) "sums_ahead"),co "sums_ahead" "sums_ahead" 1019 304 1 544 545 546 547 548 1026,cI (st 56) "sums_ahead" ed (r 549),aX,cq,bW [ak "sums" 1032,ak "more" 1033],aX,cE (bq (st 57) "widened"),co "widened" "widened" 1029 316 2 551 552 553 554 555 1034,cI (st 57) "widened" ed (r 556),aX,cq,bW [ak "items" 1040,ak "settings" 1041,ak "sums" 1042,ak "found" 1043,ak "place" 1044,ak "penalty" 1045,ak "sort" 1046,ak "start" 1047,ak "begin" 1048,ak "end" 1049],aX,cE (bq (st 58) "spots"),co "spots" "spots" 1037 318 2 558 559 560 561 562 1050,cI (st 58) "spots" ed (r 563),aX,cq,bW [ak "settings" 1056,ak "extra" 1057,ak "row" 1058],aX,cE (bq (st 59) "ground_of"),co "ground_of" "ground_of" 1053 329 2 565 566 567 568 569 1059,cI (st 59) "ground_of" ed (r 570),aX,cq,cE (bq (st 60) "line_totals"),bU "code" [ak "line_totals" 1062,ak "line_totals" 1063,c4 1064,i 335,i 3,i 0,i 0,i 3,r 572,.bool true,i 181,r 573,.none,.none,.none,r 574,i 1065,i 335,c4 1066],cI (st 60) "line_totals" ed (r 575),aX,cq,bW [ak "width" 1071,ak "sums" 1072,ak "short" 1073,ak "bad" 1074],aX,cE (bq (st 61) "fitted"),co "fitted" "fitted" 1068 337 2 577 578 579 580 581 1075,cI (st 61) "fitted" ed (r 582),aX,cq,bW [ak "settings" 1081,ak "bad" 1082,ak "penalty" 1083,ak "cost" 1084,ak "found" 1085],aX,cE (bq (st 62) "line_demerits"),co "line_demerits" "line_demerits" 1078 350 3 584 585 586 587 588 1086,cI (st 62) "line_demerits" ed (r 589),aX,cq,bW [ak "settings" 1092,ak "is_twice" 1093,ak "is_end" 1094,ak "apart" 1095,ak "found" 1096],aX,cE (bq (st 63) "pair_demerits"),co "pair_demerits" "pair_demerits" 1089 358 4 591 592 593 594 595 1097,cI (st 63) "pair_demerits" ed (r 596),aX,cq,bW [ak "trial" 1103,ak "spot" 1104,ak "active" 1105,ak "is_end" 1106,ak "place" 1107,ak "penalty" 1108,ak "sort" 1109,ak "end" 1110,ak "settings" 1111,ak "kept" 1112,ak "best" 1113,ak "least" 1114,ak "number" 1115,ak "way" 1116,ak "line" 1117,ak "sums" 1118,ak "bad" 1119,ak "fit" 1120,ak "is_resort" 1121,ak "demerits" 1122,ak "is_twice" 1123,ak "group" 1124,ak "old" 1125],aX,cE (bq (st 64) "ways_to"),co "ways_to" "ways_to" 1100 365 4 598 599 600 601 602 1126,cI (st 64) "ways_to" ed (r 603),aX,cq,bW [ak "ways" 1132,ak "looseness" 1133,ak "best" 1134,ak "way" 1135,ak "found" 1136,ak "apart" 1137,ak "far" 1138,ak "is_nearer" 1139],aX,cE (bq (st 65) "picked"),co "picked" "picked" 1129 394 2 605 606 607 608 609 1140,cI (st 65) "picked" ed (r 610),aX,cq,bW [ak "way" 1146,ak "found" 1147],aX,cE (bq (st 66) "places_of"),co "places_of" "places_of" 1143 407 1 612 613 614 615 616 1148,cI (st 66) "places_of" ed (r 617)] P
def MP:List Value:=DK++[i 413,i 0,r 624,i 427,i 0,r 631,i 435,i 0,r 638,i 442,i 0,r 645,i 452,i 0,r 652,i 458,i 0,r 659,i 463,i 0,r 666,i 473,i 0,r 673,i 477,i 0,r 678,i 480,i 0,r 685,i 499,i 0,r 692,i 507,i 0,r 697,i 533,i 0,r 704,i 551,i 0,r 711,i 558,i 0,r 718,i 562,i 0,r 723,i 568,i 0,r 728,i 576,i 0,r 733]
def uJ(P:Params):BT:=c6 (((yl P).ins 3 (d4 [k "__name__" 165 gq,k "__doc__" 166 .none,k "__package__" 167 .none,k "__loader__" 168 (.builtin "__main__.__loader__#op\x61que"),k "__spec__" 169 .none,k "__annotations__" 170 (r 6),k "__builtins__" 171 (r 4),k "__file__" 173 (c4 172),k "__cached__" 174 .none,k "_wall" 193 (r 21),k "PageError" 223 (r 39),k "BadArgument" 239 (r 52),k "BadUnit" 255 (r 64),k "Overflow" 271 (r 76),k "UNITY" 275 (.int 65536 274),k "MAX_DIMEN" 281 (.int 1073741823 280),k "MAX_NUMBER" 287 (.int 2147483647 286),k "INF_BAD" 289 (.int 10000 288),k "NORMAL" 294 (.int 0 290),k "FIL" 295 (.int 1 291),k "FILL" 296 (.int 2 292),k "FILLL" 297 (.int 3 293),k "is_whole" 306 (r 89),k "check_whole" 313 (r 96),k "check_number" 320 (r 103),k "check_dimen" 327 (r 110),k "rounded" 335 (r 117),k "reading" 343 (r 124),k "decimal_text" 356 (r 131),k "times" 365 (r 138),k "times_scaled" 366 (r 138),k "badness" 375 (r 145),k "order_text" 382 (r 152),k "part_text" 391 (r 159),k "Glue" 491 (r 227),k "CHAR" 502 (.int 0 494),k "LIGATURE" 503 (.int 1 495),k "HBOX" 504 (.int 2 496),k "VBOX" 505 (.int 3 497),k "RULE" 506 (.int 4 498),k "KERN" 507 (.int 5 499),k "GLUE" 508 (.int 6 500),k "PENALTY" 509 (.int 7 501),k "DISC" 517 (.int 8 510),k "MARK" 518 (.int 9 511),k "INSERT" 519 (.int 10 512),k "ADJUST" 520 (.int 11 513),k "MATH" 521 (.int 12 514),k "SPECIAL" 522 (.int 13 515),k "UNSET" 523 (.int 14 516),k "NATURAL" 527 (.int 0 524),k "STRETCHED" 528 (.int 1 525),k "SHRUNK" 529 (.int 2 526),k "FONT_KERN" 534 (.int 0 530),k "EXPLICIT" 535 (.int 1 531),k "ACCENT_KERN" 536 (.int 2 532),k "MU_KERN" 537 (.int 3 533),k "PLAIN" 545 (.int 0 538),k "ALEADERS" 546 (.int 1 539),k "CLEADERS" 547 (.int 2 540),k "XLEADERS" 548 (.int 3 541),k "MU_SKIP" 549 (.int 4 542),k "NONSCRIPT" 550 (.int 5 543),k "NAMED" 551 (.int 100 544),k "check_short" 559 (r 258),k "Box" 600 (r 275),k "Kern" 632 (r 296),k "Skip" 666 (r 318),k "Penalty" 696 (r 339),k "Disc" 730 (r 360),k "Mark" 760 (r 381),k "width_of" 766 (r 390),k "EJECT" 772 (.int (-10000) 770),k "FORBID" 773 (.int 10000 771),k "VERY_LOOSE" 778 (.int 0 774),k "LOOSE_FIT" 779 (.int 1 775),k "DECENT_FIT" 780 (.int 2 776),k "TIGHT_FIT" 781 (.int 3 777),k "PLAIN_BREAK" 784 (.int 0 782),k "HYPHEN_BREAK" 785 (.int 1 783),k "TOO_LONG" 788 (.int 10001 787),k "WORST_LINE" 790 (.int 100000000 789),k "NO_SUMS" 797 (r 403),k "Shape" 848 (r 434),k "Settings" 887 (r 455),k "Way" 924 (r 476),k "Trial" 962 (r 497),k "check_settings" 970 (r 508),k "is_dropped" 977 (r 515),k "legal_breaks" 993 (r 522),k "start_behind" 1001 (r 529),k "add_glue" 1009 (r 536),k "wide" 1018 (r 543),k "sums_ahead" 1028 (r 550),k "widened" 1036 (r 557),k "spots" 1052 (r 564),k "ground_of" 1061 (r 571),k "line_totals" 1067 (r 576),k "fitted" 1077 (r 583),k "line_demerits" 1088 (r 590),k "pair_demerits" 1099 (r 597),k "ways_to" 1128 (r 604),k "picked" 1142 (r 611),k "places_of" 1150 (r 618),k "choose" 1168 (r 625),k "_law_pool" 1180 (r 632),k "_law_take" 1189 (r 639),k "_law_settings" 1198 (r 646),k "_law_exchanged" 1206 (r 653),k "_law_end" 1214 (r 660),k "_law_word" 1226 (r 667),k "_law_glue" 1235 (r 674),k "_law_text" 1241 (r 679),k "_law_gap" 1259 (r 686),k "_law_badness" 1270 (r 693),k "_law_line" 1276 (r 698),k "_law_cost" 1295 (r 705),k "_law_same" 1305 (r 712),k "_law_answer" 1317 (r 719),k "_law_ranks" 1323 (r 724),k "_law_alike" 1329 (r 729),k "law" 1335 (r 734)] 122 P)).ins 12 (cD MP P)) 619 [aX,cq,bW [ak "items" 1154,ak "settings" 1155,ak "shape" 1156,ak "tolerance" 1157,ak "extra" 1158,ak "is_last" 1159,ak "ground" 1160,ak "trial" 1161,ak "active" 1162,ak "spot" 1163,ak "found" 1164,ak "apart" 1165],aX,cE (bq (st 67) "choose"),co "choose" "choose" 1151 413 6 619 620 621 622 623 1166,cI (st 67) "choose" ed (r 624),aX,cq,bW [ak "script" 1174,ak "whole" 1175,ak "cell" 1176,ak "part" 1177],aX,cE (bq (st 69) "_law_pool"),co "_law_pool" "_law_pool" 1171 427 1 626 627 628 629 630 1178,cI (st 69) "_law_pool" gq (r 631),aX,cq,bW [ak "pool" 1184,ak "many" 1185,ak "digit" 1186],aX,cE (bq (st 70) "_law_take"),co "_law_take" "_law_take" 1181 435 2 633 634 635 636 637 1187,cI (st 70) "_law_take" gq (r 638),aX,cq,bW [ak "pool" 1193,ak "is_filled" 1194,ak "found" 1195],aX,cE (bq (st 71) "_law_settings"),co "_law_settings" "_law_settings" 1190 442 2 640 641 642 643 644 1196,cI (st 71) "_law_settings" gq (r 645),aX,cq,bW [ak "settings" 1202,ak "found" 1203],aX,cE (bq (st 72) "_law_exchanged"),co "_law_exchanged" "_law_exchanged" 1199 452 1 647 648 649 650 651 1204,cI (st 72) "_law_exchanged" gq (r 652),aX,cq,bW [ak "sort" 1210,ak "parts" 1211],aX,cE (bq (st 73) "_law_end"),co "_law_end" "_law_end" 1207 458 1 654 655 656 657 658 1212,cI (st 73) "_law_end" gq (r 659),aX,cq,bW [ak "pool" 1218,ak "told" 1219,ak "size" 1220,ak "sort" 1221,ak "apart" 1222,ak "kind" 1223],aX,cE (bq (st 74) "_law_word"),co "_law_word" "_law_word" 1215 463 2 661 662 663 664 665 1224,cI (st 74) "_law_word" gq (r 666),aX,cq,bW [ak "pool" 1230,ak "told" 1231,ak "parts" 1232],aX,cE (bq (st 75) "_law_glue"),co "_law_glue" "_law_glue" 1227 473 2 668 669 670 671 672 1233,cI (st 75) "_law_glue" gq (r 673),aX,cq,cE (bq (st 76) "_law_text"),bU "code" [ak "_law_text" 1236,ak "_law_text" 1237,c4 1238,i 477,i 1,i 0,i 0,i 3,r 675,.bool true,i 181,r 676,.none,.none,.none,r 677,i 1239,i 477,c4 1240],cI (st 76) "_law_text" gq (r 678),aX,cq,bW [ak "pool" 1245,ak "told" 1246,ak "settings" 1247,ak "sort" 1248,ak "at" 1249,ak "gap" 1250,ak "parts" 1251,ak "turn" 1252,ak "fee" 1253,ak "ahead" 1254,ak "behind" 1255,ak "middle" 1256],aX,cE (bq (st 77) "_law_gap"),co "_law_gap" "_law_gap" 1242 480 3 680 681 682 683 684 1257,cI (st 77) "_law_gap" gq (r 685),aX,cq,bW [ak "excess" 1263,ak "total" 1264,ak "ratio" 1265,ak "least" 1266,ak "rest" 1267],aX,cE (bq (st 78) "_law_badness"),co "_law_badness" "_law_badness" 1260 499 2 687 688 689 690 691 1268,cI (st 78) "_law_badness" gq (r 692),aX,cq,cE (bq (st 79) "_law_line"),bU "code" [ak "_law_line" 1271,ak "_law_line" 1272,c4 1273,i 507,i 3,i 0,i 0,i 3,r 694,.bool true,i 181,r 695,.none,.none,.none,r 696,i 1274,i 507,c4 1275],cI (st 79) "_law_line" gq (r 697),aX,cq,bW [ak "told" 1280,ak "way" 1281,ak "rows" 1282,ak "settings" 1283,ak "at" 1284,ak "fit" 1285,ak "found" 1286,ak "to" 1287,ak "between" 1288,ak "worse" 1289,ak "own" 1290,ak "alone" 1291,ak "fee" 1292],aX,cE (bq (st 80) "_law_cost"),co "_law_cost" "_law_cost" 1277 533 2 699 700 701 702 703 1293,cI (st 80) "_law_cost" gq (r 704),aX,cq,bW [ak "one" 1299,ak "other" 1300,ak "this" 1301,ak "that" 1302],aX,cE (bq (st 81) "_law_same"),co "_law_same" "_law_same" 1296 551 2 706 707 708 709 710 1303,cI (st 81) "_law_same" gq (r 711),aX,cq,bW [ak "told" 1309,ak "nodes" 1310,ak "settings" 1311,ak "is_last" 1312,ak "given" 1313,ak "answer" 1314],aX,cE (bq (st 82) "_law_answer"),co "_law_answer" "_law_answer" 1306 558 4 713 714 715 716 717 1315,cI (st 82) "_law_answer" gq (r 718),aX,cq,cE (bq (st 83) "_law_ranks"),bU "code" [ak "_law_ranks" 1318,ak "_law_ranks" 1319,c4 1320,i 562,i 3,i 0,i 0,i 3,r 720,.bool true,i 181,r 721,.none,.none,.none,r 722,i 1321,i 562,c4 1322],cI (st 83) "_law_ranks" gq (r 723),aX,cq,cE (bq (st 84) "_law_alike"),bU "code" [ak "_law_alike" 1324,ak "_law_alike" 1325,c4 1326,i 568,i 3,i 0,i 0,i 3,r 725,.bool true,i 181,r 726,.none,.none,.none,r 727,i 1327,i 568,c4 1328],cI (st 84) "_law_alike" gq (r 728),aX,cq,cE (bq (st 85) "law"),bU "code" [ak "law" 1330,ak "law" 1331,c4 1332,i 576,i 1,i 0,i 0,i 3,r 730,.bool true,i 181,r 731,.none,.none,.none,r 732,i 1333,i 576,c4 1334],cI (st 85) "law" gq (r 733)] P
@[irreducible] def ht(P:Params):Heap:=⟨⟨(uJ P).list 735⟩,lf⟩
noncomputable def DL:List Addr:=(iQ 735).filter fun a=>Nat.testBit 145755844958611049025989050273874872528916620827687414934641491636920326307425599290105848523682376458999454092924770144794012628489535997058368169355476831271066517967654763912624969265629934618545217058286252743112163340 a
@[irreducible] def c7(P:Params):Frag:=DL.map fun a=>(a,((uJ P).get a).getD default)
noncomputable abbrev g6:=PySem.W.Fast.tw10110043849684766642
noncomputable abbrev g7:=PySem.W.Fast.tw14364793385576792824
theorem MQ:segRunT=g6:=PySem.W.Fast.te10110043849684766642
theorem MR:treeTable=g7:=PySem.W.Fast.te14364793385576792824
def ev:Env:={scope:=dh.main.scope,locals:=mainNs,globals:=mainNs,cells:=[],code:=.ref 13,frame:=I 14}
def ym:List Stmt:=behindTheImports dh
def aW:Code:=.body ym ev
noncomputable def B:List Frame:=[topFrame ⟨0,0,0,0⟩]
def S(t:Params→BT)(n toks:Nat)(w:World)(os:OsState):SharedT:=⟨t w.params,n,lf,#[],o',toks,os⟩
def s1:List Stmt:=[st 0,st 1,st 2,st 3,st 4]
theorem cL:∀w:World,(fun os:OsState=>g6 g7 dh w 11 (I (.ref 6)) 1 685 (S t0 15 187 w os) (piecesOf s1 ev aW ⟨0,0,0,0⟩ B))=fun os=>I (.next,S t1 67 256 w os,aW,⟨11,0,12,8⟩):=fun w=>by kernel_rfl
def s2:List Stmt:=[st 5,st 6,st 7,st 8,st 9,st 10,st 11,st 12,st 13,st 14,st 15,st 16,st 17,st 18,st 19,st 20,st 21,st 22,st 23]
theorem MS:∀w:World,(fun os:OsState=>g6 g7 dh (w.withFollow "special-get-raises" false) 11 (I (.ref 6)) 1 729 (S t1 67 256 (w.withFollow "special-get-raises" false) os) (piecesOf s2 ev aW ⟨11,0,12,8⟩ B))=fun os=>I (.next,S e1 160 392 (w.withFollow "special-get-raises" false) os,aW,⟨75,0,76,81⟩):=fun w=>by kernel_rfl
theorem MT:∀w:World,(fun os:OsState=>g6 g7 dh (w.withFollow "special-get-raises" true) 11 (I (.ref 6)) 1 729 (S t1 67 256 (w.withFollow "special-get-raises" true) os) (piecesOf s2 ev aW ⟨11,0,12,8⟩ B))=fun os=>I (.next,S e1 160 392 (w.withFollow "special-get-raises" true) os,aW,⟨75,0,76,81⟩):=fun w=>by kernel_rfl
theorem ck:∀w:World,(fun os:OsState=>g6 g7 dh w 11 (I (.ref 6)) 1 729 (S t1 67 256 w os) (piecesOf s2 ev aW ⟨11,0,12,8⟩ B))=fun os=>I (.next,S e1 160 392 w os,aW,⟨75,0,76,81⟩):=byRow2 "special-get-raises" MS MT
def s3:List Stmt:=[st 24,st 25,st 26,st 27]
theorem MU:∀w:World,(fun os:OsState=>g6 g7 dh (w.withFollow "special-get-raises" false) 11 (I (.ref 6)) 1 801 (S e1 160 392 (w.withFollow "special-get-raises" false) os) (piecesOf s3 ev aW ⟨75,0,76,81⟩ B))=fun os=>I (.next,S t3 240 524 (w.withFollow "special-get-raises" false) os,aW,⟨116,43,116,48⟩):=fun w=>by kernel_rfl
theorem MV:∀w:World,(fun os:OsState=>g6 g7 dh (w.withFollow "special-get-raises" true) 11 (I (.ref 6)) 1 801 (S e1 160 392 (w.withFollow "special-get-raises" true) os) (piecesOf s3 ev aW ⟨75,0,76,81⟩ B))=fun os=>I (.next,S t3 240 524 (w.withFollow "special-get-raises" true) os,aW,⟨116,43,116,48⟩):=fun w=>by kernel_rfl
theorem gK:∀w:World,(fun os:OsState=>g6 g7 dh w 11 (I (.ref 6)) 1 801 (S e1 160 392 w os) (piecesOf s3 ev aW ⟨75,0,76,81⟩ B))=fun os=>I (.next,S t3 240 524 w os,aW,⟨116,43,116,48⟩):=byRow2 "special-get-raises" MU MV
def s4:List Stmt:=[st 28,st 29,st 30,st 31,st 32]
theorem MW:∀w:World,(fun os:OsState=>g6 g7 dh (w.withFollow "special-get-raises" false) 11 (I (.ref 6)) 1 604 (S t3 240 524 (w.withFollow "special-get-raises" false) os) (piecesOf s4 ev aW ⟨116,43,116,48⟩ B))=fun os=>I (.next,S lX 280 601 (w.withFollow "special-get-raises" false) os,aW,⟨125,0,138,27⟩):=fun w=>by kernel_rfl
theorem MX:∀w:World,(fun os:OsState=>g6 g7 dh (w.withFollow "special-get-raises" true) 11 (I (.ref 6)) 1 604 (S t3 240 524 (w.withFollow "special-get-raises" true) os) (piecesOf s4 ev aW ⟨116,43,116,48⟩ B))=fun os=>I (.next,S lX 280 601 (w.withFollow "special-get-raises" true) os,aW,⟨125,0,138,27⟩):=fun w=>by kernel_rfl
theorem hM:∀w:World,(fun os:OsState=>g6 g7 dh w 11 (I (.ref 6)) 1 604 (S t3 240 524 w os) (piecesOf s4 ev aW ⟨116,43,116,48⟩ B))=fun os=>I (.next,S lX 280 601 w os,aW,⟨125,0,138,27⟩):=byRow2 "special-get-raises" MW MX
def s5:List Stmt:=[st 33,st 34,st 35]
theorem qD:∀w:World,(fun os:OsState=>g6 g7 dh w 11 (I (.ref 6)) 1 713 (S lX 280 601 w os) (piecesOf s5 ev aW ⟨125,0,138,27⟩ B))=fun os=>I (.next,S r6 344 697 w os,aW,⟨160,0,164,40⟩):=fun w=>by kernel_rfl
def r7:List Stmt:=[st 36,st 37,st 38,st 39,st 40,st 41,st 42,st 43,st 44,st 45]
theorem MY:∀w:World,(fun os:OsState=>g6 g7 dh (w.withFollow "special-get-raises" false) 11 (I (.ref 6)) 1 787 (S r6 344 697 (w.withFollow "special-get-raises" false) os) (piecesOf r7 ev aW ⟨160,0,164,40⟩ B))=fun os=>I (.next,S pa 404 798 (w.withFollow "special-get-raises" false) os,aW,⟨196,0,196,7⟩):=fun w=>by kernel_rfl
theorem MZ:∀w:World,(fun os:OsState=>g6 g7 dh (w.withFollow "special-get-raises" true) 11 (I (.ref 6)) 1 787 (S r6 344 697 (w.withFollow "special-get-raises" true) os) (piecesOf r7 ev aW ⟨160,0,164,40⟩ B))=fun os=>I (.next,S pa 404 798 (w.withFollow "special-get-raises" true) os,aW,⟨196,0,196,7⟩):=fun w=>by kernel_rfl
theorem nV:∀w:World,(fun os:OsState=>g6 g7 dh w 11 (I (.ref 6)) 1 787 (S r6 344 697 w os) (piecesOf r7 ev aW ⟨160,0,164,40⟩ B))=fun os=>I (.next,S pa 404 798 w os,aW,⟨196,0,196,7⟩):=byRow2 "special-get-raises" MY MZ
def yn:List Stmt:=[st 46,st 47,st 48]
theorem iw:∀w:World,(fun os:OsState=>g6 g7 dh w 11 (I (.ref 6)) 1 756 (S pa 404 798 w os) (piecesOf yn ev aW ⟨196,0,196,7⟩ B))=fun os=>I (.next,S yk 481 925 w os,aW,⟨238,0,245,28⟩):=fun w=>by kernel_rfl
def yo:List Stmt:=[st 49,st 50,st 51,st 52,st 53,st 54,st 55,st 56,st 57,st 58,st 59,st 60,st 61,st 62,st 63,st 64,st 65,st 66]
theorem M0:∀w:World,(fun os:OsState=>g6 g7 dh w 11 (I (.ref 6)) 1 792 (S yk 481 925 w os) (piecesOf yo ev aW ⟨238,0,245,28⟩ B))=fun os=>I (.next,S yl 619 1151 w os,aW,⟨407,0,412,22⟩):=fun w=>by kernel_rfl
def yp:List Stmt:=[st 67,st 68,st 69,st 70,st 71,st 72,st 73,st 74,st 75,st 76,st 77,st 78,st 79,st 80,st 81,st 82,st 83,st 84,st 85]
theorem M1:∀w:World,(fun os:OsState=>g6 g7 dh w 11 (I (.ref 6)) 1 579 (S yl 619 1151 w os) (piecesOf yp ev aW ⟨407,0,412,22⟩ B))=fun os=>I (.next,S uJ 735 1336 w os,aW,⟨576,0,609,68⟩):=fun w=>by kernel_rfl
end
end Mine.H
end
section
open PySem PySem.W PySem.Calls PyProof.Rows
set_option Elab.async false
set_option maxRecDepth 100000
namespace Mine.H
noncomputable section
def fg:Program:={dh with main:={dh.main with body:=[st 85]}}
noncomputable def lo:List Str:=(["_wall","PageError","BadArgument","BadUnit","Overflow","UNITY","MAX_DIMEN","MAX_NUMBER","INF_BAD","NORMAL","FIL","FILL","FILLL","is_whole","check_whole","check_number","check_dimen","rounded","reading","decimal_text","times","times_scaled","badness","order_text","part_text","Glue","CHAR","LIGATURE","HBOX","VBOX","RULE","KERN","GLUE","PENALTY","DISC","MARK","INSERT","ADJUST","MATH","SPECIAL","UNSET","NATURAL","STRETCHED","SHRUNK","FONT_KERN","EXPLICIT","ACCENT_KERN","MU_KERN","PLAIN","ALEADERS","CLEADERS","XLEADERS","MU_SKIP","NONSCRIPT","NAMED","check_short","Box","Kern","Skip","Penalty","Disc","Mark","width_of","EJECT","FORBID","VERY_LOOSE","LOOSE_FIT","DECENT_FIT","TIGHT_FIT","PLAIN_BREAK","HYPHEN_BREAK","TOO_LONG","WORST_LINE","NO_SUMS","Shape","Settings","Way","Trial","check_settings","is_dropped","legal_breaks","start_behind","add_glue","wide","sums_ahead","widened","spots","ground_of","line_totals","fitted","line_demerits","pair_demerits","ways_to","picked","places_of","choose","_law_pool","_law_take","_law_settings","_law_exchanged","_law_end","_law_word","_law_glue","_law_text","_law_gap","_law_badness","_law_line","_law_cost","_law_same","_law_answer","_law_ranks","_law_alike"]:List String).map Str.ofString
def ai:Hook:=kHook c7 DL (fun ag=>by kernel_rfl)
def jS(w:World)(os:OsState):Shared:=⟨ht w.params,#[],o',1336,os⟩
end
end Mine.H
end
section
open PySem PySem.W PySem.Calls PyProof.Rows
set_option Elab.async false
set_option maxRecDepth 100000
namespace Mine.H
noncomputable section
theorem M3{w:World}{n:Nat}{a b:OsState→SharedT}{DM:Thread}{c:Code}{q:Pos}
  (h:(fun os:OsState=>g6 g7 dh w 11 (I (.ref 6)) 1 n (a os) DM)=fun os=>I (.next,b os,c,q)) (os:OsState):
  segRun treeTable dh w 11 (I (.ref 6)) 1 n (a os).abs DM=I (.next,(b os).abs,c,q):=by
 have aa:=congrFun h os;replace aa:=(MR).symm▸((MQ).symm▸aa);exact segRun_of aa
abbrev r8(M:Nat)(w:World)(s:Shared)(t:Thread):Option Shared:=topRun treeTable dh w 11 (I (.ref 6)) M s t
theorem mJ{w:World}{os:OsState}{n N:Nat}{a b:OsState→SharedT}{l rest:List Stmt}{p dp:Pos}{r:Shared}
  (h:(fun os:OsState=>g6 g7 dh w 11 (I (.ref 6)) 1 n (a os) (piecesOf l ev aW p B))=fun os=>I (.next,b os,aW,dp))
  (k:r8 N w (b os).abs (restOf rest ev aW dp B)=I r):r8 (n+N) w (a os).abs (restOf (l++rest) ev aW p B)=I r:=
 piece_app (M3 h os) k
theorem M4(w:World)(os:OsState):r8 2 w (S uJ 735 1336 w os).abs (restOf [] ev aW ⟨576,0,609,68⟩ B)=I (jS w os):=by kernel_rfl
theorem M5(w:World)(os:OsState):r8 (685+(729+(801+(604+(713+(787+(756+(792+(579+2))))))))) w (S t0 15 187 w os).abs (restOf (s1++(s2++(s3++(s4++(s5++(r7++(yn++(yo++(yp++[]))))))))) ev aW ⟨0,0,0,0⟩ B)=I (jS w os):=mJ (cL w) (mJ (ck w) (mJ (gK w) (mJ (hM w) (mJ (qD w) (mJ (nV w) (mJ (iw w) (mJ (M0 w) (mJ (M1 w) (M4 w os)))))))))
theorem M6:ym=s1++(s2++(s3++(s4++(s5++(r7++(yn++(yo++(yp++[])))))))):=by kernel_rfl
def DN(w:World)(os:OsState):Shared:=⟨yh w.params,#[],o',187,os⟩
theorem M7(w:World)(os:OsState):segRun treeTable dh w 11 (I (.ref 6)) 1 1 (DN w os) (blockOf ym ev aW ⟨0,0,0,0⟩ B)=I (.next,(S t0 15 187 w os).abs,aW,⟨0,0,0,0⟩):=by kernel_rfl
theorem M8(w:World)(os:OsState):topGo treeTable dh w 11 (I (.ref 6)) 12 ⟨boot_heap w.params,#[],o',181,os⟩ (topStub dh)=I (DN w os,⟨denote treeTable aW,aW,⟨0,0,0,0⟩,B⟩):=by kernel_rfl
theorem M9(w:World)(os:OsState):r8 (12+(1+(685+(729+(801+(604+(713+(787+(756+(792+(579+2))))))))))) w ⟨boot_heap w.params,#[],o',181,os⟩ (topStub dh)=I (jS w os):=go_top (M8 w os) (piece_block (M7 w os) (by erw[M6];exact M5 w os))
theorem M'(w:World):staticsOk (importedModules dh.main.body) (boot_heap w.params) (ht w.params)=true:=by erw[PySem.W.Fast.te5923862056798008813];kernel_rfl
theorem Na(w:World):namesBound dh (ht w.params)=true:=by kernel_rfl
theorem Nb(w:World):laidKept (boot_heap w.params) (ht w.params)=true:=by kernel_rfl
theorem Nc(w:World)(os:OsState):seen ((recsOf fg).map (·.name)) (ownsOf fg) [] {(jS w os)with gens:= #[]}=expectedOf fg:=by erw[PySem.W.Fast.te5160383126252970620,PySem.W.Fast.te3399658132070893891,PySem.W.Fast.te5991557255702980513];kernel_rfl
theorem Nd(w:World):(ht w.params).bltView=bltViewBooted:=by kernel_rfl
theorem Nf(w:World):(ht w.params).keysOk (looseW fg lo) ((recsOf fg).map (·.name)) ((litsOf fg).map (·.1)) ((clssOf fg (looseW fg lo)).map (·.name))=true:=by erw[PySem.W.Fast.te10880121769531294198,PySem.W.Fast.te821141287760084731,PySem.W.Fast.te3399658132070893891,PySem.W.Fast.te7409074990110511671,PySem.W.Fast.te13664370479719496447];kernel_rfl
theorem Ng(w:World):(ht w.params).accountedOkI (importedModules dh.main.body)=true:=by erw[PySem.W.Fast.te14722251495701143533,PySem.W.Fast.te5923862056798008813];kernel_rfl
theorem Nh(w:World):(ht w.params).isNs mainGlobals=true:=by kernel_rfl
theorem Ni(w:World):(ht w.params).isNs builtinsNs=true:=by kernel_rfl
theorem Nj(w:World):tablesOk fg (ht w.params)=true:=by erw[PySem.W.Fast.te10994771534591457954];kernel_rfl
theorem Nk(w:World)(os:OsState):tabsOk fg (jS w os)=true:=by erw[PySem.W.Fast.te479339242167458305];kernel_rfl
theorem Nl(w:World)(os:OsState):pinSeenD fg (drecsOf fg) (jS w os)=pinGoodD (drecsOf fg):=by erw[PySem.W.Fast.te16090120013241838585,PySem.W.Fast.te3247288618530077131];kernel_rfl
theorem Nm(w:World)(os:OsState):plainSeenE fg (looseW fg lo) (jS w os)=plainGoodE fg (looseW fg lo):=by erw[PySem.W.Fast.te2386780881361962483,PySem.W.Fast.te821141287760084731];kernel_rfl
theorem Nn(w:World)(os:OsState):plainSeenD fg lo (jS w os)=plainGoodD fg lo:=by erw[PySem.W.Fast.te11698064438423848299];kernel_rfl
theorem Np(w:World)(os:OsState):wideSeen fg (jS w os)=wideGood fg:=by erw[PySem.W.Fast.te7317090234206586261];kernel_rfl
theorem Nq(w:World)(os:OsState):clsSeenW fg lo (jS w os)=clsGoodW fg lo:=by erw[PySem.W.Fast.te7369524293546568484];kernel_rfl
theorem Nr(w:World)(os:OsState):ai.obs (jS w os)=ai.val w:=by kernel_rfl
theorem Nt(w:World):((boot_heap w.params).isNs mainGlobals&&(#[]:Array GenState).size==0,(boot_heap w.params).objs.size,(boot_heap w.params).nsMap mainGlobals "__annotations__")=(true,11,I (.ref 6)):=by erw[PySem.W.Fast.te8920871248978507458];kernel_rfl
theorem Nu(w:World):(fencedOpening treeTable dh w 13000).map (fun s=>(s.heap,s.gens,s.drawn,s.toks))=I (boot_heap w.params,Array.mk [],boot_drawn,boot_toks):=boot_open (p:=dh) (by kernel_rfl) (by kernel_rfl) (fun s=>by kernel_rfl) w
theorem Nv(w:World)(os:OsState):openSeen fg lo (importedModules dh.main.body) (fun ag=>true) true (jS w os)=openGood fg lo:=by
 delta openSeen openGood;erw[Nc w os,Nk w os,Nl w os,Nm w os,Nn w os,Np w os,Nq w os];erw[Nd w,Nf w,Ng w,Nh w,Ni w,Nj w]
 rfl
theorem left:LeftO dh fg lo (fun ag=>true) ai.obs ai.val 13000 true:=LeftO.of_pieces (H₀:=boot_heap) (H₁:=ht) (gs₀:= #[]) (gs₁:= #[]) (d₀:=o') (d₁:=o') (k₀:=181) (k₁:=1336) (m₀:=11) (ann:=I (.ref 6))
  (M:=12+(1+(685+(729+(801+(604+(713+(787+(756+(792+(579+2)))))))))))
  (fun w=>(Nu w).trans (by kernel_rfl)) Nt M9 (by kernel_rfl)
  (fun w=>funext fun os=>Prod.ext (by
    show(staticsOk (importedModules dh.main.body) (boot_heap w.params) (ht w.params)&&namesBound dh (ht w.params)&&gensDone (jS w os)&&laidKept (boot_heap w.params) (ht w.params))=true;erw[M' w,Na w,Nb w];rfl)
   (Prod.ext (Nv w os) (Nr w os)))
end
end Mine.H
end
section
open PySem PySem.W PySem.Calls PyProof.Rows
set_option Elab.async false
set_option maxRecDepth 100000
namespace Mine.H
noncomputable section
set_option maxHeartbeats 8000000 in
theorem Nw:PySem.Challenge.rw_tu0005_01.wellSaid=true:=by
 refine(congrFun PySem.W.Fast.te9446332074065402090 _).trans ?_;delta PySem.W.Fast.tw9446332074065402090
 (repeat' first|with_reducible refine look_both ?_ ?_|delta PySem.W.Fast.tw17960256430627541270|delta PySem.W.Fast.tw2436336058641802641|delta PySem.W.Fast.tw12908688711261696721)<;>decide+kernel
def DO:DefRec:=match st 85 with
 | .FunctionDef n a b _ _ _ sc _ _ p=>⟨n,a,b,sc,p⟩
 |_=>⟨u "",⟨[],[],J,[],[],J,[]⟩,[],⟨.function,[],false,false,[]⟩,default⟩
theorem head(call:WalkO fg lo (fun ag ag=>True) ai.says PySem.Challenge.rw_tu0005_01.row.toRowW DO [] fun f vs=>PySem.call f vs):PySem.Challenge.rw_tu0005_01.Holds:=by refine holds_law Nw fun dH=>?_;refine holds_open (q:=fg) (loose:=lo) (Xt:=fun ag=>true) (XP:=fun ag ag=>True) (Yf:=ai.obs) (Ya:=ai.val) (YP:=ai.says) (N:=13000) left ai.of ai.keeps (fun ag ag=>trivial) (fun ag ag ag ag ag=>trivial) (by kernel_rfl) (by kernel_rfl) (by kernel_rfl) (fun s e=>recFacts_of (by rfl)) (by rfl) dH (by decide+kernel) ⟨rfl,rfl,rfl,rfl,rfl,by decide+kernel⟩ ⟨[.list []],by decide+kernel,by decide+kernel⟩ call
end
end Mine.H
end
end
section
local macro_rules | `(tactic| cases $h:ident) => pure (Mine.inj h)
section
open PySem PySem.W
namespace Mine
inductive V where
 |bB|bool (b:Bool)|int (i:Int)|str (n:Nat)
 |tup (xs:List V)|lst (xs:List V)|obj (t:Option Nat) (c:Nat) (fs:List (Nat×V))
 deriving Inhabited
noncomputable def V.ctorIdx(x:V):Nat:=V.casesOn x 0 (fun ag=>1) (fun ag=>2) (fun ag=>3) (fun ag=>4) (fun ag=>5) (fun ag ag ag=>6)
inductive X where
 |v (v:V)|cell (i:Nat)
 deriving Inhabited
noncomputable def X.ctorIdx(x:X):Nat:=X.casesOn x (fun ag=>0) (fun ag=>1)
inductive Cell where
 |gone|lst (xs:List V)|cw (kvs:List (Int×V))|e9 (kvs:List (Nat×X))|inst (c:Nat) (fs:List (Nat×X))
 deriving Inhabited
noncomputable def Cell.ctorIdx(x:Cell):Nat:=Cell.casesOn x 0 (fun ag=>1) (fun ag=>2) (fun ag=>3) (fun ag ag=>4)
structure St where
 loc:List (Option X)
 heap:List Cell
 tag:Nat
 base:Nat
inductive jT where|add|sub|mul|fdiv|mod|pow(u:Unit:=())
inductive bk where|eq|ne|lt|le|gt|ge|is|nW|fA(u:Unit:=())
inductive gB where|len|abs|min|max|sum|tuple|list|sorted|divmod|int|isInt|isBool(u:Unit:=())
inductive cJ where|one(i:Nat)|many(is:List Nat)
noncomputable def jT.ctorIdx(x:jT):Nat:=jT.casesOn x 0 1 2 3 4 (fun ag=>5)
noncomputable def bk.ctorIdx(x:bk):Nat:=bk.casesOn x 0 1 2 3 4 5 6 7 (fun ag=>8)
noncomputable def gB.ctorIdx(x:gB):Nat:=gB.casesOn x 0 1 2 3 4 5 6 7 8 9 10 (fun ag=>11)
noncomputable def cJ.ctorIdx(x:cJ):Nat:=cJ.casesOn x (fun ag=>0) (fun ag=>1)
mutual
inductive ao where
 |const (v:V)
 |loc (i:Nat)
 |bin (o:jT) (a b:ao)
 |neg (a:ao)
 |not (a:ao)
 |and (a b:ao)
 |or (a b:ao)
 |cmp (a:ao) (o:bk) (b:ao)
 |k1 (a:ao) (o:bk) (b:ao) (br:bk) (c:ao)
 |k2 (t a b:ao)
 |attr (e:ao) (n:Nat)
 |item (e i:ao)
 |rev (e:ao)
 |uK (e:ao) (n:Nat)
 |uL (e:ao)
 |tup (es:az)
 |lst (es:az)
 |jm (es:az)
 |r9 (e:ao)
 |pb (e:ao)
 |cw
 |e9 (a6:List Nat) (es:az)
 |call (f:Nat) (es:az)
 |new (c:Nat) (es:az)
 |bi (b:gB) (es:az)
 |uM (e:ao) (n:Nat) (es:az)
 |append (e a:ao)
 |extend (e a:ao)
 |qE (e k:ao)
 |pd (e k d:ao)
 |comp (elt:ao) (aF:cJ) (src:Src)
 |r' (elt:ao) (aF:cJ) (src:Src) (c:ao)
inductive az where
 |nil
 |cons (e:ao) (es:az)
inductive Src where
 |of (e:ao)|enum (e:ao)|zip (a b:ao)|range (b:ao)|lY (a b:ao)
end
mutual
inductive dS where
 |loc (i:Nat)|attr (e:ao) (n:Nat)|item (e i:ao)|tup (ts:dI)
inductive dI where
 |nil|cons (t:dS) (ts:dI)
end
mutual
inductive c8 where
 |assign (t:dS) (e:ao)
 |jU (ts:dI) (es:az)
 |aug (i:Nat) (e:ao)
 |pe (e i v:ao)
 |ite (c:ao) (a b:bD)
 |mK (aF:cJ) (src:Src) (body:bD)
 |sa (c:ao) (body:bD)
 |ret (e:ao)
 |expr (e:ao)
 |cont
 |pass
 |raise
inductive bD where
 |nil|cons (s:c8) (ss:bD)
end
noncomputable def er{α:Type}(n:Nat):List (Nat×α)→Option α
 |[]=>J
 |(m,x)::r=>if m=n then I x else er n r
noncomputable def fS{α:Type}(n:Nat)(x:α):List (Nat×α)→List (Nat×α)
 |[]=>[(n,x)]
 |(m,y)::r=>if m=n then(m,x)::r else(m,y)::fS n x r
theorem Nx{α:Type}{n:Nat}:er n ([]:List (Nat×α))=J:=rfl
theorem qF{α:Type}{n m:Nat}{x:α}{r:List (Nat×α)}:er n ((m,x)::r)=if m=n then I x else er n r:=rfl
theorem DP{α:Type}{n:Nat}{x:α}:fS n x []=[(n,x)]:=rfl
theorem DQ{α:Type}{n m:Nat}{x y:α}{r:List (Nat×α)}:fS n x ((m,y)::r)=if m=n then(m,x)::r else(m,y)::fS n x r:=rfl
noncomputable def g8(n:Int):List (Int×V)→Option V
 |[]=>J
 |(m,x)::r=>if m=n then I x else g8 n r
noncomputable def mL(n:Int)(x:V):List (Int×V)→List (Int×V)
 |[]=>[(n,x)]
 |(m,y)::r=>if m=n then(m,x)::r else(m,y)::mL n x r
noncomputable def small(a:Int):Bool:=U (-(2^62)<a)&&U (a<2^62)
noncomputable def intOf:V→Option Int
 | .int i=>I i
 |_=>J
noncomputable def boolOf:V→Option Bool
 | .bool b=>I b
 |_=>J
noncomputable def strOf:V→Option Nat
 | .str n=>I n
 |_=>J
noncomputable def kq:V→Option (List V)
 | .lst xs=>I xs
 |_=>J
noncomputable def sb:V→Option (List V)
 | .tup xs=>I xs
 |_=>J
noncomputable def kr:V→Option (List V)
 | .lst xs=>I xs
 | .tup xs=>I xs
 |_=>J
noncomputable def fit(n:Nat):Bool:=U (n≤100000)
noncomputable def DR(x y:V):Option V:=match x with
 | .int a=>(intOf y).map fun b=>.int (a+b)
 | .lst a=>(kq y).bind fun b=>if fit (a.length+b.length)then I (.lst (a++b))else J
 | .tup a=>(sb y).bind fun b=>if fit (a.length+b.length)then I (.tup (a++b))else J
 |_=>J
noncomputable def uN(o:jT)(a b:Int):Option V:=match o with
 | .add=>I (.int (a+b))
 | .sub=>I (.int (a-b))
 | .mul=>if small a||small b then I (.int (a*b))else J
 | .fdiv=>if b=0∨small b=false then J else I (.int (Int.fdiv a b))
 | .mod=>if b=0 then J else I (.int (Int.fmod a b))
 | .pow _=>if 0≤b∧b≤400∧ -(2^20)<a∧a<2^20 then I (.int (a^b.toNat))else J
noncomputable def uO(o:jT)(x y:V):Option V:=match o with
 | .add=>DR x y
 |o=>(intOf x).bind fun a=>(intOf y).bind fun b=>uN o a b
noncomputable def h4:List V→Option (List Int)
 |[]=>I []
 | .int a::r=>(h4 r).map (a:: ·)
 |_=>J
def pf(xs aS:List V):Option Bool:=match h4 xs,h4 aS with
 |some a,I b=>I (U (a=b))
 |_,_=>J
noncomputable def uP(x y:V):Option Bool:=match x with
 | .int a=>(intOf y).map fun b=>decide (a=b)
 | .bool a=>(boolOf y).map fun b=>a==b
 | .lst xs=>(kq y).bind fun aS=>if xs.length=aS.length then pf xs aS else I false
 | .tup xs=>(sb y).bind fun aS=>pf xs aS
 |_=>J
noncomputable def ks:V→Bool
 | .bB=>true
 |_=>false
noncomputable def uQ:V→Option Nat
 | .obj t _ _=>t
 |_=>J
def yq(x y:V):Option Bool:=if ks y then I (ks x)else(uQ x).bind fun t=>(uQ y).bind fun t'=>if t=t' then I true else J
def Ny(x:V)(xs:List V):Option Bool:=(intOf x).bind fun a=>(h4 xs).map fun l=>l.contains a
noncomputable def DS(o:bk)(a b:Int):Option Bool:=match o with
 | .lt=>I (U (a<b))
 | .le=>I (U (a≤b))
 | .gt=>I (U (a>b))
 | .ge=>I (U (a≥b))
 |_=>J
noncomputable def Nz(o:bk)(x y:V):Option Bool:=match o with
 | .eq=>uP x y
 | .ne=>(uP x y).map (!·)
 | .is=>yq x y
 | .nW=>(yq x y).map (!·)
 | .fA _=>(kq y).bind (Ny x)
 |o=>(intOf x).bind fun a=>(intOf y).bind fun b=>DS o a b
noncomputable def idx(i:Int)(n:Nat):Option Nat:=if 0≤i∧i<n∧i≤100000 then I i.toNat else J
def gL(x i:V):Option V:=(kr x).bind fun xs=>(intOf i).bind fun j=>(idx j xs.length).bind (xs[·]?)
noncomputable def pg:List V→Option Int
 |[]=>I 0
 | .int a::r=>(pg r).map (a+ ·)
 |_=>J
noncomputable def insI(a:Int):List Int→List Int
 |[]=>[a]
 |b::r=>if a≤b then a::b::r else b::insI a r
noncomputable def sortI:List Int→List Int
 |[]=>[]
 |a::r=>insI a (sortI r)
theorem DT{a b:Int}{r:List Int}:insI a (b::r)=if a≤b then a::b::r else b::insI a r:=rfl
theorem DU{a:Int}{r:List Int}:sortI (a::r)=insI a (sortI r):=rfl
noncomputable def v1:List V→Option V
 |[a]=>I a
 |_=>J
noncomputable def v2:List V→Option (V×V)
 |[a,b]=>I (a,b)
 |_=>J
def dt(vs:List V):Option (Int×Int):=(v2 vs).bind fun p=>(intOf p.1).bind fun a=>(intOf p.2).map fun b=>(a,b)
def uR{α:Type}(xs:List V)(a:α):Option α:=if fit xs.length then I a else J
noncomputable def sd(b:gB)(vs:List V):Option V:=match b with
 | .len=>(v1 vs).bind fun a=>(kr a).bind fun xs=>uR xs (.int xs.length)
 | .abs=>(v1 vs).bind fun a=>(intOf a).map fun i=>.int i.natAbs
 | .min=>(dt vs).map fun p=>.int (if p.2<p.1 then p.2 else p.1)
 | .max=>(dt vs).map fun p=>.int (if p.2>p.1 then p.2 else p.1)
 | .sum=>(v1 vs).bind fun a=>(kq a).bind fun xs=>(pg xs).map .int
 | .tuple=>(v1 vs).bind fun a=>(kq a).bind fun xs=>uR xs (.tup xs)
 | .list=>(v1 vs).bind fun a=>(kr a).bind fun xs=>uR xs (.lst xs)
 | .sorted=>J
 | .divmod=>(dt vs).bind fun p=>if p.2=0∨small p.2=false then J else I (.tup [.int (Int.fdiv p.1 p.2),.int (Int.fmod p.1 p.2)])
 | .int=>(v1 vs).bind fun a=>(boolOf a).map fun b=>.int (if b then 1 else 0)
 | .isInt=>(v1 vs).bind fun a=>(intOf a).map fun ag=>.bool true
 | .isBool _=>(v1 vs).bind fun a=>(intOf a).map fun ag=>.bool false
noncomputable def aY{α β:Type}(o:Option (α×St))(f:α→St→Option β):Option β:=match o with
 |some p=>f p.1 p.2
 |none=>J
noncomputable def valOf:X→Option V
 | .v v=>I v
 | .cell _=>J
noncomputable def jV:X→Option Nat
 | .v _=>J
 | .cell i=>I i
def fJ(x:X):Option Int:=(valOf x).bind intOf
def k3(x:X):Option Bool:=(valOf x).bind boolOf
def xL(x:X):Option (List V):=(valOf x).bind kq
def uS(x:X):Option (List V):=(valOf x).bind sb
noncomputable def uT:Cell→Option (List V)
 | .lst xs=>I xs
 |_=>J
noncomputable def yr:Cell→Option (List (Int×V))
 | .cw kvs=>I kvs
 |_=>J
noncomputable def ph:Cell→Option (Nat×List (Nat×X))
 | .inst c fs=>I (c,fs)
 |_=>J
noncomputable def objOf:V→Option (Nat×List (Nat×V))
 | .obj _ c fs=>I (c,fs)
 |_=>J
noncomputable def uU:Cell→Option Unit
 | .gone=>I ()
 |_=>J
noncomputable def St.setCell(st:St)(i:Nat)(c:Cell):St:={st with heap:=st.heap.set i c}
noncomputable def St.f'(st:St)(i:Nat)(x:X):St:={st with loc:=st.loc.set i (I x)}
noncomputable def St.nX(st:St)(i:Nat):St:={st with loc:=st.loc.set i J}
noncomputable def St.new(st:St)(c:Cell):X×St:=(.cell st.heap.length,{st with heap:=st.heap++[c]})
def St.lst(st:St)(i:Nat):Option (List V):=(st.heap[i]?).bind uT
def St.jn(st:St)(i:Nat):Option (List (Int×V)):=(st.heap[i]?).bind yr
noncomputable def St.val(st:St):X→Option V
 | .v v=>I v
 | .cell i=>(st.lst i).map .lst
noncomputable def mM:List (Nat×X)→Option (List (Nat×V))
 |[]=>I []
 |(n,x)::r=>(valOf x).bind fun v=>(mM r).map ((n,v):: ·)
noncomputable def DV(n:Nat):X→Bool
 | .v _=>true
 | .cell j=>decide (j<n)
def uV(n:Nat)(l:List (Nat×X)):Bool:=l.all fun p=>DV n p.2
noncomputable def St.freeze(st:St):X→Option (V×St)
 | .v v=>I (v,st)
 | .cell i=>(st.lst i).bind fun xs=>if st.base≤i then I (.lst xs,st.setCell i .gone)else J
noncomputable def vals(st:St):List X→Option (List V)
 |[]=>I []
 |x::r=>(st.val x).bind fun v=>(vals st r).map (v:: ·)
noncomputable def ys:Cell→Cell→Option Bool
 | .cw a,d=>(yr d).bind fun b=>if b.isEmpty then I a.isEmpty else J
 | .lst a,d=>(uT d).bind fun b=>uP (.lst a) (.lst b)
 |_,_=>J
def yt(x y:X):Option (Nat×Nat):=(jV x).bind fun i=>(jV y).map fun j=>(i,j)
def St.uW(st:St)(o:bk)(x y:X):Option Bool:=(st.val x).bind fun a=>(st.val y).bind fun b=>Nz o a b
noncomputable def St.cmp(st:St)(o:bk)(x y:X):Option Bool:=match o with
 | .eq=>(match yt x y with
  |some p=>(st.heap[p.1]?).bind fun c=>(st.heap[p.2]?).bind fun d=>ys c d
  |none=>st.uW .eq x y)
 |o=>st.uW o x y
noncomputable abbrev Calls:=Nat→List X→List Cell→Nat→Nat→Option (X×List Cell×Nat)
noncomputable def nY:List String:=["reason","width","stretch","stretch_order","shrink","shrink_order","kind","height","depth","items","shift","sign","order","ratio","sort","glue","leader","value","pre","post","middle","tokens","font","code","hang_indent","narrow","hang_after","rows","done","pretolerance","tolerance","line_penalty","hyphen_penalty","ex_hyphen_penalty","adjacent","double_hyphen","final_hyphen","looseness","emergency","left_skip","right_skip","spot","line","fit","demerits","before","settings","shape","most","ground","is_last","apart","special","is_on","nodes","words","gaps","ends","size","extra","end"]
noncomputable def gC:Nat→Nat:=fun c=>match c with
 |0=>5
 |1=>7
 |2=>8
 |3=>9
 |4=>10
 |5=>11
 |6=>12
 |7=>14
 |8=>17
 |9=>18
 |10=>19
 |_=>999
noncomputable def mN:Nat→Nat→Option Nat:=fun c n=>if c=7∧n=52 then I 15 else if c=7∧n=42 then I 16 else J
noncomputable def qG:Nat→Nat→Option V:=fun c n=>if n=6 then(match c with|2=>I (.int 5)|3=>I (.int 6)|4=>I (.int 7)|5=>I (.int 8)|6=>I (.int 9)|_=>J)else J
noncomputable def tagged(c:Nat):Bool:=U (1≤c)&&U (c≤6)
noncomputable def kept(c:Nat):Bool:=c==8||c==10
noncomputable def St.yu(st:St)(n:Nat):X→Option Nat
 | .v v=>(objOf v).bind fun p=>if(er n p.2).isNone then mN p.1 n else J
 | .cell i=>((st.heap[i]?).bind ph).bind fun p=>if(er n p.2).isNone then mN p.1 n else J
def iT(c n:Nat):Bool:=U (c<11)&&U (n<61)&&(mN c n).isNone
def se(c n:Nat)(r:Option X):Option X:=if iT c n then r.or ((qG c n).map .v)else J
noncomputable def St.attr(st:St)(x:X)(n:Nat):Option X:=match x with
 | .v v=>(objOf v).bind fun p=>se p.1 n ((er n p.2).map .v)
 | .cell i=>((st.heap[i]?).bind ph).bind fun p=>se p.1 n (er n p.2)
def St.setAttr(st:St)(x:X)(n:Nat)(y:X):Option St:=(jV x).bind fun i=>((st.heap[i]?).bind ph).bind fun p=>
 if iT p.1 n&&((valOf y).isSome||decide (st.base≤i))then I (st.setCell i (.inst p.1 (fS n y p.2)))else J
noncomputable def nZ:Cell→V→Option X
 | .lst xs,i=>(gL (.lst xs) i).map .v
 | .cw kvs,i=>(intOf i).bind fun k=>(g8 k kvs).map .v
 | .e9 kvs,i=>(strOf i).bind fun n=>if n<61 then er n kvs else J
 |_,_=>J
def St.item(st:St)(x i:X):Option X:=(valOf i).bind fun i=>match x with
 | .v a=>(gL a i).map .v
 | .cell a=>(st.heap[a]?).bind fun c=>nZ c i
noncomputable def pj(own:Bool):Cell→V→X→Option Cell
 | .lst xs,i,x=>(intOf i).bind fun i=>(valOf x).bind fun v=>(idx i xs.length).map fun k=>.lst (xs.set k v)
 | .cw kvs,k,x=>(intOf k).bind fun k=>(valOf x).bind fun v=>if fit kvs.length then I (.cw (mL k v kvs))else J
 | .e9 kvs,k,x=>(strOf k).bind fun n=>if n<61∧fit kvs.length=true∧((valOf x).isSome||own)=true then I (.e9 (fS n x kvs))else J
 |_,_,_=>J
def St.setItem(st:St)(x i:X)(y:X):Option St:=(valOf i).bind fun i=>(jV x).bind fun a=>(st.heap[a]?).bind fun c=>(pj (U (st.base≤a)) c i y).map fun c=>st.setCell a c
noncomputable def pairs:Nat→List V→List V
 |_,[]=>[]
 |i,x::r=>.tup [.int i,x]::pairs (i+1) r
noncomputable def k4:List V→List V→List V
 |x::xs,y::aS=>.tup [x,y]::k4 xs aS
 |_,_=>[]
noncomputable def ix:List Nat→List X→St→St
 |i::is,x::xs,st=>ix is xs (st.f' i x)
 |_,_,st=>st
def yv(n:Nat)(v:V):Option (List V):=(sb v).bind fun vs=>if n=vs.length then I vs else J
noncomputable def hN(aF:cJ)(v:V)(st:St):Option St:=match aF with
 | .one i=>I (st.f' i (.v v))
 | .many is=>(yv is.length v).map fun vs=>ix is (vs.map .v) st
noncomputable def g9(aF:cJ)(st:St):St:=match aF with
 | .one i=>st.nX i
 | .many is=>is.foldl St.nX st
inductive R where|next|cont|ret(x:X)
noncomputable def R.ctorIdx(x:R):Nat:=R.casesOn x 0 1 (fun ag=>2)
noncomputable def jo:R→Bool
 | .ret _=>true
 |_=>false
noncomputable def forL(aF:cJ)(body:St→Option (R×St)):List V→St→Option (R×St)
 |[],st=>I (.next,st)
 |v::vs,st=>(hN aF v st).bind fun st=>aY (body st) fun r st=>if jo r then I (r,st)else forL aF body vs st
noncomputable def lZ(test:St→Option (Bool×St))(body:St→Option (R×St)):Nat→St→Option (R×St)
 |0,_=>J
 |n+1,st=>aY (test st) fun b st=>if b then(aY (body st) fun r st=>if jo r then I (r,st)else lZ test body n st)else I (.next,st)
noncomputable def fh(aF:cJ)(test:St→Option (Bool×St))(elt:St→Option (V×St)):List V→St→Option (List V×St)
 |[],st=>I ([],st)
 |v::vs,st=>(hN aF v st).bind fun st=>aY (test st) fun b st=>if b then(aY (elt st) fun y st=>aY (fh aF test elt vs st) fun aS st=>I (y::aS,st))else fh aF test elt vs st
noncomputable def St.lend(st:St):X→Option (List V×St)
 | .v v=>(kr v).bind fun xs=>if fit xs.length then I (xs,st)else J
 | .cell i=>(st.lst i).bind fun xs=>if fit xs.length then I (xs,st.setCell i .gone)else J
noncomputable def St.back(st:St)(x:X)(xs:List V):Option St:=match x with
 | .cell i=>((st.heap[i]?).bind uU).map fun ag=>st.setCell i (.lst xs)
 | .v _=>I st
noncomputable def gM(a b:Int):List V:=(iQ (b-a).toNat).map fun(k:Nat)=>.int (a+k)
noncomputable def inR(n:Int):Bool:=U (-100000≤n)&&U (n≤100000)
def ku(xs:List V)(r:X×St):Option (X×St):=if fit xs.length then I r else J
def hO(o:Option (X×St)):Option (Bool×St):=aY o fun x st=>(k3 x).map fun b=>(b,st)
def gN(o:Option (X×St)):Option (V×St):=aY o fun x st=>(valOf x).map fun v=>(v,st)
def sf(c:Nat)(st:St)(h:List Cell)(t:Nat):Option (X×St):=((h[st.heap.length]?).bind ph).bind fun p=>if p.1≠c then J else
 if kept c then I (.cell st.heap.length,{st with heap:=h,tag:=t})
 else(mM p.2).map fun fs=>(.v (.obj (if tagged c then I t else J) c fs),{st with heap:=h.take st.heap.length,tag:=if tagged c then t+1 else t})
def yw(x:X):Option Unit:=(valOf x).bind fun v=>if ks v then I ()else J
noncomputable def yx(st:St)(o:Option (X×List Cell×Nat)):Option (X×St):=o.map fun p=>(p.1,{st with heap:=p.2.1,tag:=p.2.2})
noncomputable def yy(a6:List Nat)(xs:List X):Bool:=U (a6.length=xs.length)&&U (a6.length≤15)&& !a6.isEmpty&&U (a6.Nodup)&&a6.all fun k=>decide (k<61)
noncomputable def hP(b:gB)(st:St)(xs:List X):Option (X×St):=match b with
 | .sorted=>(xs.head?.bind jV).bind fun i=>(st.jn i).bind fun kvs=>if xs.length=1∧kvs.length<64 then I (.v (.lst ((sortI (kvs.map (·.1))).map .int)),st)else J
 |b=>(vals st xs).bind fun vs=>(sd b vs).map fun r=>(.v r,st)
def uX(st:St)(x:X)(xs aS:List V)(st1:St):Option (X×St):=if st1.base=st.base then(st1.back x xs).map fun st2=>(.v (.lst aS),{st2 with loc:=st.loc})else J
def uY(o:Option (X×St)):Option (X×St):=aY o fun x st=>(k3 x).map fun b=>(.v (.bool b),st)
mutual
noncomputable def aj(C:Calls):ao→St→Option (X×St)
 | .const v,st=>I (.v v,st)
 | .loc i,st=>(st.loc[i]?).bind fun x=>x.map fun x=>(x,st)
 | .bin o a b,st=>aY (aj C a st) fun x st=>aY (aj C b st) fun y st=>(st.val x).bind fun u=>(st.val y).bind fun v=>(uO o u v).map fun r=>(.v r,st)
 | .neg a,st=>aY (aj C a st) fun x st=>(fJ x).map fun i=>(.v (.int (-i)),st)
 | .not a,st=>aY (aj C a st) fun x st=>(k3 x).map fun b=>(.v (.bool (!b)),st)
 | .and a b,st=>aY (aj C a st) fun x st=>(k3 x).bind fun t=>if t then uY (aj C b st)else I (.v (.bool false),st)
 | .or a b,st=>aY (aj C a st) fun x st=>(k3 x).bind fun t=>if t then I (.v (.bool true),st)else uY (aj C b st)
 | .cmp a o b,st=>aY (aj C a st) fun x st=>aY (aj C b st) fun y st=>(st.cmp o x y).map fun r=>(.v (.bool r),st)
 | .k1 a o b br c,st=>aY (aj C a st) fun x st=>aY (aj C b st) fun y st=>(st.cmp o x y).bind fun t=>if t then(aY (aj C c st) fun z st=>(st.cmp br y z).map fun r=>(.v (.bool r),st))else I (.v (.bool false),st)
 | .k2 t a b,st=>aY (aj C t st) fun x st=>(k3 x).bind fun t=>if t then aj C a st else aj C b st
 | .attr e n,st=>aY (aj C e st) fun x st=>(st.attr x n).map fun r=>(r,st)
 | .item e i,st=>aY (aj C e st) fun x st=>aY (aj C i st) fun y st=>(st.item x y).map fun r=>(r,st)
 | .rev e,st=>aY (aj C e st) fun x st=>(st.val x).bind fun v=>(kq v).bind fun xs=>ku xs (.v (.lst xs.reverse),st)
 | .uK e n,st=>aY (aj C e st) fun x st=>(st.val x).bind fun v=>(kq v).bind fun xs=>ku xs (.v (.lst (xs.take n)),st)
 | .uL e,st=>aY (aj C e st) fun x st=>(uS x).bind fun xs=>if xs.isEmpty then J else ku xs (.v (.tup (xs.drop 1)),st)
 | .tup es,st=>aY (iy C es st) fun vs st=>ku vs (.v (.tup vs),st)
 | .lst es,st=>aY (iy C es st) fun vs st=>ku vs (.v (.lst vs),st)
 | .jm es,st=>aY (iy C es st) fun vs st=>ku vs (st.new (.lst vs))
 | .r9 e,st=>aY (aj C e st) fun x st=>(st.val x).bind fun v=>(kr v).bind fun xs=>ku xs (st.new (.lst xs))
 | .pb e,st=>aY (aj C e st) fun x st=>(st.val x).bind fun v=>(kq v).bind fun xs=>ku xs (st.new (.lst xs.reverse))
 | .cw,st=>I (st.new (.cw []))
 | .e9 a6 es,st=>aY (dq C es st) fun xs st=>if yy a6 xs then I (st.new (.e9 (a6.zip xs)))else J
 | .call f es,st=>aY (dq C es st) fun xs st=>yx st (C f xs st.heap st.tag st.heap.length)
 | .new c es,st=>aY (dq C es st) fun xs st=>(C (gC c) (.cell st.heap.length::xs) (st.heap++[.inst c []]) st.tag st.heap.length).bind fun p=>(yw p.1).bind fun ag=>sf c st p.2.1 p.2.2
 | .bi b es,st=>aY (dq C es st) fun xs st=>hP b st xs
 | .uM e n es,st=>aY (aj C e st) fun x st=>(st.yu n x).bind fun f=>aY (dq C es st) fun xs st=>yx st (C f (x::xs) st.heap st.tag st.heap.length)
 | .append e a,st=>aY (aj C e st) fun o st=>(jV o).bind fun i=>(st.lst i).bind fun ag=>aY (aj C a st) fun x st=>aY (st.freeze x) fun v st=>(st.lst i).bind fun xs=>ku xs (.v .bB,st.setCell i (.lst (xs++[v])))
 | .extend e a,st=>aY (aj C e st) fun o st=>(jV o).bind fun i=>(st.lst i).bind fun ag=>aY (aj C a st) fun x st=>(xL x).bind fun aS=>(st.lst i).bind fun xs=>ku (xs++aS) (.v .bB,st.setCell i (.lst (xs++aS)))
 | .qE e k,st=>aY (aj C e st) fun o st=>(jV o).bind fun i=>(st.jn i).bind fun ag=>aY (aj C k st) fun x st=>(fJ x).bind fun k=>(st.jn i).map fun kvs=>(.v ((g8 k kvs).getD .bB),st)
 | .pd e k d,st=>aY (aj C e st) fun o st=>(jV o).bind fun i=>(st.jn i).bind fun ag=>aY (aj C k st) fun x st=>(fJ x).bind fun k=>aY (aj C d st) fun y st=>(valOf y).bind fun d=>(st.jn i).map fun kvs=>(.v ((g8 k kvs).getD d),st)
 | .comp elt aF src,st=>(fi C src st).bind fun p=>aY (fh aF (fun st=>I (true,st)) (fun st=>gN (aj C elt st)) p.2.1 (g9 aF p.2.2)) fun aS st1=>uX p.2.2 p.1 p.2.1 aS st1
 | .r' elt aF src c,st=>(fi C src st).bind fun p=>aY (fh aF (fun st=>hO (aj C c st)) (fun st=>gN (aj C elt st)) p.2.1 (g9 aF p.2.2)) fun aS st1=>uX p.2.2 p.1 p.2.1 aS st1
noncomputable def iy(C:Calls):az→St→Option (List V×St)
 | .nil,st=>I ([],st)
 | .cons e es,st=>aY (aj C e st) fun x st=>(valOf x).bind fun v=>aY (iy C es st) fun vs st=>I (v::vs,st)
noncomputable def dq(C:Calls):az→St→Option (List X×St)
 | .nil,st=>I ([],st)
 | .cons e es,st=>aY (aj C e st) fun x st=>aY (dq C es st) fun xs st=>I (x::xs,st)
noncomputable def fi(C:Calls):Src→St→Option (X×List V×St)
 | .of e,st=>aY (aj C e st) fun x st=>(st.lend x).map fun p=>(x,p.1,p.2)
 | .enum e,st=>aY (aj C e st) fun x st=>(xL x).bind fun xs=>if fit xs.length then I (.v .bB,pairs 0 xs,st)else J
 | .zip a b,st=>aY (aj C a st) fun x st=>(xL x).bind fun xs=>aY (aj C b st) fun y st=>(xL y).bind fun aS=>if fit (xs.length+aS.length)then I (.v .bB,k4 xs aS,st)else J
 | .range b,st=>aY (aj C b st) fun y st=>(fJ y).bind fun n=>if inR n then I (.v .bB,gM 0 n,st)else J
 | .lY a b,st=>aY (aj C a st) fun x st=>(fJ x).bind fun m=>aY (aj C b st) fun y st=>(fJ y).bind fun n=>if inR m&&inR n then I (.v .bB,gM m n,st)else J
end
mutual
noncomputable def asg(C:Calls):dS→X→St→Option St
 | .loc i,x,st=>I (st.f' i x)
 | .attr e n,x,st=>aY (aj C e st) fun o st=>st.setAttr o n x
 | .item e i,x,st=>aY (aj C e st) fun o st=>aY (aj C i st) fun j st=>st.setItem o j x
 | .tup ts,x,st=>(uS x).bind fun vs=>gb C ts (vs.map .v) st
noncomputable def gb(C:Calls):dI→List X→St→Option St
 | .nil,xs,st=>if xs.isEmpty then I st else J
 | .cons t ts,xs,st=>xs.head?.bind fun x=>(asg C t x st).bind fun st=>gb C ts xs.tail st
end
noncomputable def n0(r:R)(st:St)(k:St→Option (R×St)):Option (R×St):=match r with
 | .next=>k st
 |r=>I (r,st)
mutual
noncomputable def iU(C:Calls):c8→St→Option (R×St)
 | .assign t e,st=>aY (aj C e st) fun x st=>(asg C t x st).map fun st=>(.next,st)
 | .jU ts es,st=>aY (dq C es st) fun xs st=>(gb C ts xs st).map fun st=>(.next,st)
 | .aug i e,st=>((st.loc[i]?).bind fun x=>x.bind fJ).bind fun a=>aY (aj C e st) fun y st=>(fJ y).map fun b=>(.next,st.f' i (.v (.int (a+b))))
 | .pe e i v,st=>aY (aj C e st) fun x st=>aY (aj C i st) fun j st=>((st.item x j).bind fJ).bind fun a=>aY (aj C v st) fun y st=>(fJ y).bind fun b=>(st.setItem x j (.v (.int (a+b)))).map fun st=>(.next,st)
 | .ite c a b,st=>aY (aj C c st) fun x st=>(k3 x).bind fun t=>if t then bI C a st else bI C b st
 | .mK aF src body,st=>(fi C src st).bind fun p=>(valOf p.1).bind fun ag=>forL aF (bI C body) p.2.1 p.2.2
 | .sa c body,st=>lZ (fun st=>hO (aj C c st)) (bI C body) 100 st
 | .ret e,st=>aY (aj C e st) fun x st=>I (.ret x,st)
 | .expr e,st=>aY (aj C e st) fun ag st=>I (.next,st)
 | .cont,st=>I (.cont,st)
 | .pass,st=>I (.next,st)
 | .raise,_=>J
noncomputable def bI(C:Calls):bD→St→Option (R×St)
 | .nil,st=>I (.next,st)
 | .cons s ss,st=>aY (iU C s st) fun r st=>n0 r st fun st=>bI C ss st
end
end Mine
end
section
open PySem PySem.W
namespace Mine
theorem insI_perm(a:Int):∀l:List Int,(insI a l).Perm (a::l):=by
 intro aT
 induction aT with
 |nil=>exact .refl _
 |cons b r aD=>
  show(if a≤b then a::b::r else b::insI a r).Perm _;refine bZ (fun h:a≤b=>?_) (fun h=>?_)
  ·erw[if_pos h]
  ·erw[if_neg h];exact((aD).cons b).trans (.swap a b r)
theorem sortI_perm:∀l:List Int,(sortI l).Perm l:=by
 intro aT
 induction aT with
 |nil=>exact .refl _
 |cons a r aD=>exact(insI_perm a _).trans ((aD).cons a)
theorem NA(a:Int):∀{l:List Int},l.Pairwise (· ≤ ·)→(insI a l).Pairwise (· ≤ ·):=by
 intro aT
 induction aT with
 |nil=>intro _;exact CM _ a
 |cons b r aD=>
  intro h;refine bC (fun aa ab=>?_) (uo.mp h);show(if a≤b then a::b::r else b::insI a r).Pairwise _;refine bZ (fun du:a≤b=>?_) (fun du=>?_)
  ·erw[if_pos du];exact uo.mpr ⟨fun x aC=>(ec.mp aC).elim (fun e=>e▸du) fun aC=>cZ du (aa x aC),h⟩
  ·erw[if_neg du];exact uo.mpr ⟨fun x aC=>(ec.mp ((insI_perm a r).mem_iff.mp aC)).elim (fun e=>e▸jO (o1.mp du)) (aa x),aD ab⟩
theorem DW:∀l:List Int,(sortI l).Pairwise (· ≤ ·):=by
 intro aT
 induction aT with
 |nil=>exact .nil
 |cons a r aD=>exact NA a (aD)
end Mine
end
section
open PySem PySem.W
namespace Mine
noncomputable def st(i:Nat):Stmt:=(PySem.Challenge.pw_tu0005_01.main.body[i]?).getD default
noncomputable def mt(i j:Nat):Stmt:=match st i with
 | .ClassDef _ _ _ b _ _ _ _ _ _ _=>(b[j]?).getD default
 |_=>default
noncomputable def dc(a:Str)(b:String):Bool:=a==Str.ofString b
def jW(x:Str):Option Nat:=nY.findIdx? fun s=>dc x s
noncomputable def constOf:List (String×V):=[("EJECT",.int (-10000)),("FORBID",.int 10000),("VERY_LOOSE",.int 0),("LOOSE_FIT",.int 1),("DECENT_FIT",.int 2),("TIGHT_FIT",.int 3),("PLAIN_BREAK",.int 0),("HYPHEN_BREAK",.int 1),("TOO_LONG",.int 10001),("WORST_LINE",.int 100000000),("NO_SUMS",.tup [.int 0,.int 0,.int 0,.int 0,.int 0,.int 0]),("MAX_DIMEN",.int 1073741823),("MAX_NUMBER",.int 2147483647),("INF_BAD",.int 10000),("NORMAL",.int 0),("FILLL",.int 3),("CHAR",.int 0),("LIGATURE",.int 1),("HBOX",.int 2),("VBOX",.int 3),("RULE",.int 4),("KERN",.int 5),("GLUE",.int 6),("PENALTY",.int 7),("DISC",.int 8),("MATH",.int 12),("UNSET",.int 14),("NATURAL",.int 0),("FONT_KERN",.int 0),("EXPLICIT",.int 1),("MU_KERN",.int 3),("PLAIN",.int 0),("ALEADERS",.int 1),("XLEADERS",.int 3),("NONSCRIPT",.int 5),("NAMED",.int 100)]
noncomputable def qH:List String:=["is_whole","check_whole","check_number","check_dimen","badness","Glue.__init__","check_short","Box.__init__","Kern.__init__","Skip.__init__","Penalty.__init__","Disc.__init__","Mark.__init__","width_of","Shape.__init__","Shape.special","Shape.line","Settings.__init__","Way.__init__","Trial.__init__","check_settings","is_dropped","legal_breaks","start_behind","add_glue","wide","sums_ahead","widened","spots","ground_of","line_totals","fitted","line_demerits","pair_demerits","ways_to","picked","places_of","choose","_law_pool","_law_take","_law_settings","_law_exchanged","_law_end","_law_word","_law_glue","_law_text","_law_gap","_law_badness","_law_line","_law_cost","_law_same","_law_answer","_law_ranks","_law_alike","law"]
noncomputable def qI:List String:=["Glue","Box","Kern","Skip","Penalty","Disc","Mark","Shape","Settings","Way","Trial"]
noncomputable def sg(i:Nat):Bool:=[5,7,8,9,10,11,12,14,15,16,17,18,19].contains i
noncomputable def n1:List (String×gB):=[("len",.len),("abs",.abs),("min",.min),("max",.max),("sum",.sum),("tuple",.tuple),("list",.list),("sorted",.sorted),("divmod",.divmod),("int",.int)]
noncomputable def k5{α:Type}(x:Str):List (String×α)→Option α
 |[]=>J
 |(n,a)::r=>if dc x n then I a else k5 x r
structure bV where
 vars:List (Str×Nat)
 NB:List String
 yz:Nat
 sh:List Str
 frees:List Str
 cells:List Str
def bV.gl(cx:bV)(x:Str):Bool:=cx.sh.contains x&& !dc x "__debug__"
def bV.var(cx:bV)(x:Str):Option Nat:=if dc x "__debug__" then J else cx.vars.lookup x
def bV.ak(cx:bV)(x:Str):Option Nat:=if cx.frees.contains x then J else cx.var x
noncomputable def si:Operator→Option jT
 | .Add=>I .add| .Sub=>I .sub| .Mult=>I .mul| .FloorDiv=>I .fdiv| .Mod=>I .mod| .Pow=>I .pow|_=>J
noncomputable def k6:CmpOp→Option bk
 | .Eq=>I .eq| .NotEq=>I .ne| .Lt=>I .lt| .LtE=>I .le| .Gt=>I .gt| .GtE=>I .ge| .Is=>I .is| .IsNot=>I .nW| .In=>I .fA|_=>J
noncomputable def pk(cx:bV):List Expr→Option (List Nat)
 |[]=>I []
 | .Name x _::r=>(cx.ak x).bind fun i=>(pk cx r).map (i:: ·)
 |_=>J
noncomputable def jX(cx:bV):Expr→Option cJ
 | .Name x _=>(cx.ak x).map .one
 | .Tuple es _ _=>(pk cx es).map .many
 |_=>J
noncomputable def pn:Expr→List Str
 | .Name x _=>[x]
 | .Tuple es _ _=>es.filterMap fun(e:Expr)=>match e with| .Name x _=>I x|_=>J
 |_=>[]
noncomputable def cInt:Expr→Option Int
 | .Constant c _ _=>match c with
  | .int i=>I i
  |_=>J
 |_=>J
noncomputable def yA:Expr→Bool
 | .UnaryOp o a _=>decide (o= .USub)&&U (cInt a=I 1)
 |_=>false
noncomputable def uZ:Expr→Bool
 | .Slice lo aw st _=>lo.isNone&&aw.isNone&&(match st with
  |some s=>yA s
  |none=>false)
 |_=>false
def yB(aH:ao)(lo aw st:Option Expr):Option ao:=match lo,aw,st with
 |none,J,I s=>if yA s then I (.rev aH)else J
 |none,I h,J=>(cInt h).bind fun i=>if 0≤i then I (.uK aH i.toNat)else J
 |some l,J,J=>if cInt l=I 1 then I (.uL aH)else J
 |_,_,_=>J
noncomputable def d8(cx:bV)(scope:Scope)(tgt:Expr):bV:={cx with cells:=[],frees:=scope.names.filterMap (fun(x,ej)=>if ej== .free then I x else J),sh:=scope.names.filterMap (fun(x,ej)=>if ej== .globalImplicit then I x else J),vars:=(pn tgt).zipIdx.map (fun(x,i)=>(x,cx.yz+i))++scope.names.filterMap fun(x,ej)=>if ej== .free then(cx.var x).map (x,·)else J}
noncomputable def qJ{α:Type}[BEq α]:List α→Bool
 |[]=>true
 |a::r=> !r.contains a&&qJ r
noncomputable def u0(cx:bV)(scope:Scope)(tgt:Expr):Bool:=scope.kind== .function&&scope.names.all (fun y=>y.2 != .cell)&&qJ (scope.names.map (·.1))&&(pn tgt).all (fun x=>scope.names.lookup x==I .local)&&
 qJ ((d8 cx scope tgt).vars.map (·.1))&&qJ ((d8 cx scope tgt).vars.map (·.2))&&
 scope.names.all (fun y=>y.2 != .free||(cx.cells.contains y.1&& !cx.frees.contains y.1&&(cx.var y.1).isSome&& !dc y.1 "__classdict__"))
noncomputable def keyOf:Option Expr→Option Nat
 |some e=>match e with
  | .Constant c _ _=>(match c with
   | .str s=>jW s
   |_=>J)
  |_=>J
 |none=>J
noncomputable def keysOf:List (Option Expr)→Option (List Nat)
 |[]=>I []
 |k::r=>(keyOf k).bind fun n=>(keysOf r).map (n:: ·)
noncomputable def nameOf:Expr→Option Str
 | .Call f _ _ _=>match f with
  | .Name x _=>I x
  |_=>J
 |_=>J
noncomputable def yC(cx:bV)(f:Str):az→Option Src
 | .cons a .nil=>if cx.gl f&&dc f "enumerate" then I (.enum a)else if cx.gl f&&dc f "range" then I (.range a)else J
 | .cons a (.cons b .nil)=>if cx.gl f&&dc f "zip" then I (.zip a b)else if cx.gl f&&dc f "range" then I (.lY a b)else J
 |_=>J
def l0(cx:bV)(it:Expr)(e:Option ao)(as:Option az):Option Src:=match(nameOf it).bind fun f=>as.bind (yC cx f)with
 |some s=>I s
 |none=>e.map .of
noncomputable def mO(aF:cJ)(s:Src):Bool:=match s,aF with
 | .enum _,.one _=>false
 | .zip _ _,.one _=>false
 |_,_=>true
noncomputable def NC:Const→Option ao
 | .int i=>I (.const (.int i))
 | .bool b=>I (.const (.bool b))
 | .none=>I (.const .bB)
 | .str s=>(jW s).map fun n=>.const (.str n)
 |_=>J
def yD(cx:bV)(x:Str):Option ao:=match cx.var x with
 |some i=>I (.loc i)
 |none=>if cx.gl x then(k5 x constOf).map .const else J
noncomputable def ND(o:PySem.UnaryOp)(a:Option ao):Option ao:=match o with
 | .USub=>a.map .neg
 | .Not=>a.map .not
 |_=>J
noncomputable def DX(a:ao):List CmpOp→az→Option ao
 |[o],.cons b .nil=>(k6 o).map fun o=>.cmp a o b
 |[o,br],.cons b (.cons c .nil)=>(k6 o).bind fun o=>(k6 br).map fun br=>.k1 a o b br c
 |_,_=>J
noncomputable def yE(cx:bV):Expr→Option gB
 | .Name t _=>if cx.gl t&&dc t "int" then I .isInt else if cx.gl t&&dc t "bool" then I .isBool else J
 |_=>J
def sj(x:Str)(es:az):Option ao:=match k5 x n1 with
 |some b=>I (.bi b es)
 |none=>match qH.findIdx? (dc x)with
  |some i=>if sg i then J else I (.call i es)
  |none=>(qI.findIdx? (dc x)).map fun c=>.new c es
noncomputable def one:az→Option ao
 | .cons a .nil=>I a
 |_=>J
noncomputable def DY(po:ao):az→Option ao
 | .cons a .nil=>I (.qE po a)
 | .cons a (.cons b .nil)=>I (.pd po a b)
 |_=>J
def yF(n:Str)(po:ao)(es:az):Option ao:=if dc n "append" then(one es).map (.append po)else if dc n "extend" then(one es).map (.extend po)else if dc n "get" then DY po es else(jW n).map fun k=>.uM po k es
noncomputable def DZ(cx:bV)(f:Expr)(args:List Expr)(pos:Pos)(hd:Option ao)(es:Option az)(bs:Option ao):Option ao:=match f with
 | .Name x _=>if(cx.var x).isSome|| !cx.gl x then J else if dc x "isinstance" then(match args with
   |[_,t]=>hd.bind fun bx=>(yE cx t).map fun b=>.bi b (.cons bx .nil)
   |_=>J)else es.bind (sj x)
 | .Attribute _ n apos=>if !(apos.endLine==pos.line&&U (args.length<30))then J else bs.bind fun po=>es.bind fun es=>yF n po es
 |_=>J
mutual
noncomputable def aW(cx:bV):Expr→Option ao
 | .Constant c _ _=>NC c
 | .Name x _=>yD cx x
 | .BinOp a o b _=>(si o).bind fun o=>(aW cx a).bind fun a=>(aW cx b).map fun b=>.bin o a b
 | .UnaryOp o a _=>ND o (aW cx a)
 | .BoolOp op es _=>cBool cx op es
 | .Compare a os bs _=>(aW cx a).bind fun a=>(dv cx bs).bind fun bs=>DX a os bs
 | .IfExp t a b _=>(aW cx t).bind fun t=>(aW cx a).bind fun a=>(aW cx b).map fun b=>.k2 t a b
 | .Attribute e n _=>(jW n).bind fun n=>(aW cx e).map fun e=>.attr e n
 | .Subscript e i _=>(aW cx e).bind fun e=>match i with
  | .Slice lo aw st _=>yB e lo aw st
  |i=>(aW cx i).map fun i=>.item e i
 | .Tuple es _ _=>(dv cx es).map .tup
 | .List es _=>(dv cx es).map .lst
 | .Dict a6 vs _=>if a6.isEmpty&&vs.isEmpty then I .cw else if a6.length≠vs.length then J else(keysOf a6).bind fun a6=>(mP cx vs).map fun vs=>.e9 a6 vs
 | .Call f args yG pos=>if yG.isEmpty then DZ cx f args pos (u1 cx args) (dv cx args) (D0 cx f)else J
 | .ListComp elt gens scope _=>match gens with
  |[⟨tgt,iter,ifs,k⟩]=>if k≠0 then J else(jX (d8 cx scope tgt) tgt).bind fun aF=>(l0 cx iter (aW cx iter) (mQ cx iter)).bind fun src=>if !mO aF src|| !u0 cx scope tgt then J else(aW (d8 cx scope tgt) elt).bind fun elt=>if ifs.isEmpty then I (.comp elt aF src)else if ifs.length≠1 then J else(u1 (d8 cx scope tgt) ifs).map fun c=>.r' elt aF src c
  |_=>J
 |_=>J
noncomputable def D0(cx:bV):Expr→Option ao
 | .Attribute o _ _=>aW cx o
 |_=>J
noncomputable def u1(cx:bV):List Expr→Option ao
 |[]=>J
 |e::_=>aW cx e
noncomputable def mQ(cx:bV):Expr→Option az
 | .Call _ args yG _=>if yG.isEmpty then dv cx args else J
 |_=>J
noncomputable def dv(cx:bV):List Expr→Option az
 |[]=>I .nil
 |e::r=>(aW cx e).bind fun e=>(dv cx r).map fun r=>.cons e r
noncomputable def mP(cx:bV):List Expr→Option az
 |[]=>I .nil
 |e::r=>(match e with
   | .List es _=>(dv cx es).map ao.jm
   | .Subscript e i _=>if uZ i then(aW cx e).map ao.pb else J
   |e=>aW cx e).bind fun e=>(mP cx r).map fun r=>.cons e r
noncomputable def cBool(cx:bV):rQ→List Expr→Option ao
 |_,[]=>J
 |op,e::r=>match r with
  |[]=>aW cx e
  |r=>(aW cx e).bind fun e=>(cBool cx op r).map fun r=>match op with
   | .And=>.and e r
   | .Or=>.or e r
end
noncomputable def u2(cx:bV):Expr→Option Expr
 | .Call f as a6 _=>match as with
  |[a]=>(match f with
   | .Name x _=>if dc x "list"&&(cx.var x).isNone&&cx.gl x&&a6.isEmpty then I a else J
   |_=>J)
  |_=>J
 |_=>J
noncomputable def listOf:Expr→Option (List Expr)
 | .List es _=>I es
 |_=>J
noncomputable def k7:Expr→Option (List Expr)
 | .Tuple es _ _=>I es
 |_=>J
def pq(cx:bV)(e:Expr):Option ao:=match listOf e with
 |some es=>(dv cx es).map .jm
 |none=>aW cx e
def u3(cx:bV)(e:Expr):Option ao:=match u2 cx e with
 |some a=>(aW cx a).map .r9
 |none=>pq cx e
noncomputable def NF(cx:bV):Expr→Bool
 | .Name x _=>cx.NB.any (dc x)
 | .Subscript .. =>true
 |_=>false
def l1(cx:bV)(t e:Expr):Option ao:=if NF cx t then u3 cx e else aW cx e
mutual
noncomputable def iz(cx:bV):Expr→Option dS
 | .Name x _=>(cx.ak x).map .loc
 | .Attribute e n _=>(jW n).bind fun n=>(aW cx e).map fun e=>.attr e n
 | .Subscript e i _=>(aW cx e).bind fun e=>(aW cx i).map fun i=>.item e i
 | .Tuple ts _ _=>(jY cx ts).map .tup
 |_=>J
noncomputable def jY(cx:bV):List Expr→Option dI
 |[]=>I .nil
 |t::r=>(iz cx t).bind fun t=>(jY cx r).map fun r=>.cons t r
end
noncomputable def n2(cx:bV):List Expr→List Expr→Option az
 |[],[]=>I .nil
 |t::ts,e::es=>(l1 cx t e).bind fun e=>(n2 cx ts es).map fun es=>.cons e es
 |_,_=>J
noncomputable def sk(es:List Expr):Bool:=U (es.length≤100)&&(!es.all (constantsAlone 8)||es.all (foldedForSure 8))
def yH(cx:bV)(t e:Expr):Option c8:=match k7 t,k7 e with
 |some ts,I es=>if sk es then(jY cx ts).bind fun yI=>(n2 cx ts es).map fun es=>.jU yI es else J
 |_,_=>(iz cx t).bind fun t'=>(l1 cx t e).map fun e=>.assign t' e
noncomputable def D1(cx:bV)(o:Operator)(e:Expr):Expr→Option c8
 | .Name x _=>if o= .Add then(cx.ak x).bind fun i=>(aW cx e).map fun e=>.aug i e else J
 | .Subscript a i _=>if o= .Add then(aW cx a).bind fun a=>(aW cx i).bind fun i=>(aW cx e).map fun e=>.pe a i e else J
 |_=>J
noncomputable def isCall:Expr→Bool
 | .Call .. =>true
 |_=>false
mutual
noncomputable def n3(cx:bV):Stmt→Option c8
 | .Assign ts e _=>match ts with
  |[t]=>yH cx t e
  |_=>J
 | .AugAssign t o e _=>D1 cx o e t
 | .If t a b _=>(aW cx t).bind fun t=>(kx cx a).bind fun a=>(kx cx b).map fun b=>.ite t a b
 | .For t it b r _=>if !r.isEmpty then J else(jX cx t).bind fun aF=>(l0 cx it (aW cx it) (mQ cx it)).bind fun s=>if !mO aF s then J else(kx cx b).map fun b=>.mK aF s b
 | .While t b r _=>if !r.isEmpty then J else(aW cx t).bind fun t=>(kx cx b).map fun b=>.sa t b
 | .Return r _=>match r with
  |some e=>(pq cx e).map .ret
  |none=>J
 | .Expr e _=>if isCall e then(aW cx e).map .expr else J
 | .Continue _=>I .cont
 | .Pass _=>I .pass
 | .Raise .. =>I .raise
 |_=>J
noncomputable def kx(cx:bV):List Stmt→Option bD
 |[]=>I .nil
 |s::r=>(n3 cx s).bind fun s=>(kx cx r).map fun r=>.cons s r
end
noncomputable def D2(f:Nat):List String:=match f with
 |22=>["found"]
 |26=>["row","found"]
 |28=>["found"]
 |29=>["row"]
 |34=>["kept","best","least"]
 |36=>["found"]
 |46=>["parts"]
 |48=>["parts"]
 |_=>[]
def ps(f:Nat):Stmt:=[st 12,st 13,st 14,st 15,st 21,mt 24 0,st 31,mt 32 0,mt 33 1,mt 34 1,mt 35 1,mt 36 1,mt 37 1,st 38,mt 46 0,mt 46 1,mt 46 2,mt 47 0,mt 48 0,mt 49 0,st 50,st 51,st 52,st 53,st 54,st 55,st 56,st 57,st 58,st 59,st 60,st 61,st 62,st 63,st 64,st 65,st 66,st 67,st 69,st 70,st 71,st 72,st 73,st 74,st 75,st 76,st 77,st 78,st 79,st 80,st 81,st 82,st 83,st 84,st 85].getD f default
noncomputable def slotsOf(sc:Scope):List (Str×Nat):=((sc.names.filter fun x=>x.2== .local||x.2== .cell).map (·.1)).zipIdx
structure l2 where
 np:Nat
 ns:Nat
 dflt:List V
 rc:Bool
 body:bD
noncomputable def iV(f:Nat):List V:=match f with
 |5=>[.int 0,.int 0,.int 0,.int 0,.int 0]
 |9=>[.bB]
 |14=>[.int 0,.int 1,.tup [],.int 0]
 |_=>[]
noncomputable def yJ(n:Nat)(c:Cell):Bool:=match c with
 | .inst _ fs=>uV n fs
 | .e9 _=>false
 |_=>true
noncomputable def D3(f:Nat):Bool:=f==38
def bl(f:Nat):Option l2:=match ps f with
 | .FunctionDef _ a b _ _ _ sc _ _ _=>
  let vars:=slotsOf sc
  (kx ⟨vars,D2 f,vars.length,sc.names.filterMap (fun(x,ej)=>if ej== .globalImplicit then I x else J),[],sc.names.filterMap (fun(x,ej)=>if ej== .cell then I x else J)⟩ b).map fun body=>⟨a.args.length,vars.length+3,iV f,D3 f,body⟩
 |_=>J
noncomputable def k8:R→X
 | .ret x=>x
 |_=>.v .bB
noncomputable def D4(rc:Bool)(k:Nat)(st:St):Cell→Option (X×List Cell×Nat)
 | .lst xs=>if rc then I (.cell k,st.heap.take k++[.lst xs],st.tag)else I (.v (.lst xs),st.heap.take k,st.tag)
 | .inst c fs=>if(mM fs).isSome then I (.cell k,st.heap.take k++[.inst c fs],st.tag)else J
 |_=>J
noncomputable def sl(rc:Bool)(k:Nat)(x:X)(st:St):Option (X×List Cell×Nat):=match x with
 | .v v=>I (.v v,st.heap.take k,st.tag)
 | .cell i=>if k≤i then(st.heap[i]?).bind (D4 rc k st)else J
def l3(k b:Nat)(st:St):Bool:=U (st.base=b)&&U (k≤st.heap.length)&&(U (k=b)||(U (k=b+1)&&(st.heap[b]?).any (yJ (b+1))))
noncomputable def qK(fn:l2)(xs:List X):List (Option X):=(xs++(fn.dflt.drop (fn.dflt.length-(fn.np-xs.length))).map X.v).map I++xM (fn.ns-fn.np) J
noncomputable def bu(fns:Nat→Option l2):Nat→Calls
 |0=>fun ag ag ag ag ag=>J
 |n+1=>fun f xs h t b=>(fns f).bind fun fn=>if xs.length≤fn.np∧fn.np≤xs.length+fn.dflt.length then
   aY (bI (bu fns n) fn.body ⟨qK fn xs,h,t,b⟩) fun r st=>if l3 h.length b st then sl fn.rc h.length (k8 r) st else J
  else J
end Mine
end
section
open PySem PySem.W PySem.Calls PyProof.Rows
namespace Mine
inductive D5{α β:Type}(o:Option (α×St))(f:α→St→Option β)(b:β):Prop where
 |mk (x:α) (s:St) (e:o=I (x,s)) (h:f x s=I b):D5 o f b
theorem b2{α β:Type}{o:Option (α×St)}{f:α→St→Option β}{b:β}(h:aY o f=I b):D5 o f b:=match o,h with
 |some (x,s),h=>⟨x,s,rfl,h⟩
inductive dD{α β:Type}(o:Option α)(f:α→Option β)(b:β):Prop where
 |mk (a:α) (e:o=I a) (h:f a=I b):dD o f b
theorem aU{α β:Type}{o:Option α}{f:α→Option β}{b:β}(h:o.bind f=I b):dD o f b:=match o,h with
 |some a,h=>⟨a,rfl,h⟩
inductive D6{α β:Type}(o:Option α)(f:α→β)(b:β):Prop where
 |mk (a:α) (e:o=I a) (h:f a=b):D6 o f b
theorem omap{α β:Type}{o:Option α}{f:α→β}{b:β}(h:o.map f=I b):D6 o f b:=match o,h with
 |some a,h=>⟨a,rfl,Option.some.inj h⟩
theorem c0{α:Type}{c:Prop}[Decidable c]{o:Option α}{b:α}(h:(if c then o else J)=I b):c∧o=I b:=by
 refine bZ (fun ah:c=>?_) (fun ah=>?_)
 ·rw[if_pos ah]at h;exact⟨ah,h⟩
 ·rw[if_neg ah]at h;cases h
theorem hu{α:Type}{c:Prop}[Decidable c]{o:Option α}{b:α}(h:(if c then J else o)=I b):¬c∧o=I b:=by
 refine bZ (fun ah:c=>?_) (fun ah=>?_)
 ·rw[if_pos ah]at h;cases h
 ·rw[if_neg ah]at h;exact⟨ah,h⟩
theorem pw{α:Type}{c:Prop}[Decidable c]{a b:Option α}{r:α}(h:(if c then a else b)=I r):(c∧a=I r)∨(¬c∧b=I r):=by
 refine bZ (fun ah:c=>?_) (fun ah=>?_)
 ·rw[if_pos ah]at h;exact .inl ⟨ah,h⟩
 ·rw[if_neg ah]at h;exact .inr ⟨ah,h⟩
theorem h5{α:Type}{c:Prop}[Decidable c]{a b:Option α}{r:α}(h:(if c then a else b)=I r):(c∧a=I r)∨b=I r:=(pw h).imp id qp
theorem c1{α:Type}{a:α}{p:Prop}(h:J=I a):p:=nomatch h
noncomputable abbrev a4:Program:=PySem.Challenge.pw_tu0005_01
noncomputable def nm(n:Nat):Str:=Str.ofString (nY.getD n "")
noncomputable def dE:Nat→Addr:=fun c=>match c with
 |0=>227|1=>275|2=>296|3=>318|4=>339|5=>360|6=>381|7=>434|8=>455|9=>476|10=>497|_=>0
structure a3 where
 F:Addr→Obj→Prop
 t:List Addr
 p:List (Addr×Addr)
structure a3.le(a b:a3):Prop where
 F:∀x o,a.F x o→b.F x o
 t:a.t<+:b.t
 p:a.p<+:b.p
theorem a3.le.rfl{a:a3}:a.le a:=⟨fun ag ag h=>h,ir _,ir _⟩
theorem a3.le.trans{a b c:a3}(x:a.le b)(y:b.le c):a.le c:=⟨fun ag ag h=>y.F _ _ (x.F _ _ h),x.t.trans y.t,x.p.trans y.p⟩
theorem l4{α:Type}{l di:List α}(h:l<+:di){i:Nat}{a:α}(e:l[i]? =I a):di[i]? =I a:=by obtain⟨r,rfl⟩:=h;have:i<l.length:=(d7.mp e).1;erw[mD this];exact e
noncomputable def NsObj(o:Obj)(m:Str→Option Value):Prop:=∃es ep,o.data= .dict es ep∧StrKeys es∧∀name,nsFind es name=m name
theorem NsObj.ns{h:Heap}{a:Addr}{o:Obj}{m}(x:NsObj o m)(e:h.get? a=I o):h.Ns a m:=by obtain⟨es,ep,d,r⟩:=x;exact⟨o,es,ep,e,d,r⟩
theorem Ns.obj{h:Heap}{a:Addr}{m}(x:h.Ns a m):∃o,h.get? a=I o∧NsObj o m:=by obtain⟨o,es,ep,e,d,r⟩:=x;exact⟨o,e,es,ep,d,r⟩
noncomputable def D7(o:Obj)(T:String)(vs:List Value):Prop:=∃n,o={cls:=.type T,data:=.seq vs.toArray n}
inductive dd(W:a3):V→Value→Prop where
 |bB:dd W .bB .none
 |bool (b):dd W (.bool b) (.bool b)
 |int (i t):dd W (.int i) (.int i t)
 |str (n t):dd W (.str n) (.str (nm n) t)
 |tup {xs:List V} {vs:List Value} {a:Addr} {o:Obj} (f:W.F a o) (s:D7 o "tuple" vs) (l:vs.length=xs.length) (e:∀(i:Nat) (x:V) (v:Value),xs[i]? =I x→vs[i]? =I v→dd W x v):dd W (.tup xs) (.ref a)
 |lst {xs:List V} {vs:List Value} {a:Addr} {o:Obj} (f:W.F a o) (s:D7 o "list" vs) (l:vs.length=xs.length) (e:∀(i:Nat) (x:V) (v:Value),xs[i]? =I x→vs[i]? =I v→dd W x v):dd W (.lst xs) (.ref a)
 |obj {t:Option Nat} {c:Nat} {fs:List (Nat×V)} {x dx:Addr} {od:Obj} {m:Str→Option Value} {g:Nat→Value} (f:W.F x (instObj (dE c) dx)) (fd:W.F dx od) (n:NsObj od m)
   (a5:∀i,t=I i→W.t[i]? =I x) (ex:∀s v,m s=I v→∃n y,s=nm n∧er n fs=I y) (g1:∀n y,er n fs=I y→m (nm n)=I (g n)) (g2:∀n y,er n fs=I y→dd W y (g n)):dd W (.obj t c fs) (.ref x)
theorem dd.mono{W W':a3}(h:W.le W'){v:V}{x:Value}(r:dd W v x):dd W' v x:=by
 induction r with
 |bB=>exact .bB
 |bool b=>exact .bool b
 |int i t=>exact .int i t
 |str n t=>exact .str n t
 |tup f s l _ aG=>exact .tup (h.F _ _ f) s l aG
 |lst f s l _ aG=>exact .lst (h.F _ _ f) s l aG
 |obj f fd n a5 ex g1 _ aG=>exact .obj (h.F _ _ f) (h.F _ _ fd) n (fun i e=>l4 h.t (a5 i e)) ex g1 aG
noncomputable def b8(W:a3):X→Value→Prop
 | .v v,x=>dd W v x
 | .cell i,x=>∃q,W.p[i]? =I q∧x= .ref q.1
theorem b8.mono{W W':a3}(h:W.le W'){v:X}{x:Value}(r:b8 W v x):b8 W' v x:=by
 induction v using X.casesOn with
 |v v=>exact dd.mono h r
 |cell i=>obtain⟨q,e,aC⟩:=r;exact⟨q,l4 h.p e,aC⟩
def b5(W:a3)(xs:List V)(vs:List Value):Prop:=vs.length=xs.length∧∀(i:Nat) (x:V) (v:Value),xs[i]? =I x→vs[i]? =I v→dd W x v
theorem b5.mono{W W':a3}(h:W.le W'){xs:List V}{vs:List Value}(r:b5 W xs vs):b5 W' xs vs:=⟨r.1,fun i x v a b=>(r.2 i x v a b).mono h⟩
theorem b5.nil{W:a3}:b5 W [] []:=⟨rfl,fun i x v a=>by simp at a⟩
theorem b5.cons{W:a3}{x:V}{v:Value}{xs:List V}{vs:List Value}(a:dd W x v)(b:b5 W xs vs):b5 W (x::xs) (v::vs):=⟨by simp[b.1],fun i y u aa ab=>by induction i using fe with
  |zero=>simp at aa ab;subst aa ab;exact a
  |succ i=>simp at aa ab;exact b.2 i y u aa ab⟩
theorem b5.sm{W:a3}{x:V}{xs:List V}{vs:List Value}(h:b5 W (x::xs) vs):∃v r,vs=v::r∧dd W x v∧b5 W xs r:=by
 induction vs using bY with
 |nil=>simp[b5]at h
 |cons v r=>exact⟨v,r,rfl,h.2 0 x v rfl rfl,by simpa using h.1,fun i y u aa ab=>h.2 (i+1) y u (by simpa using aa) (by simpa using ab)⟩
theorem b5.u4{W:a3}{vs:List Value}(h:b5 W [] vs):vs=[]:=by induction vs using bY with|nil=>rfl|cons v r=>simp[b5]at h
theorem b5.get{W:a3}{xs:List V}{vs:List Value}(h:b5 W xs vs){i:Nat}{x:V}(e:xs[i]? =I x):∃v,vs[i]? =I v∧dd W x v:=by have aw:i<xs.length:=(d7.mp e).1;have aJ:=h.1▸aw;exact⟨vs[i],gp aJ,h.2 i x _ e (gp aJ)⟩
theorem b5.append{W:a3}{xs aS:List V}{vs us:List Value}(a:b5 W xs vs)(b:b5 W aS us):b5 W (xs++aS) (vs++us):=by
 refine⟨by simp[a.1,b.1],fun i x v aa ab=>?_⟩;refine bZ (fun aw:i<xs.length=>?_) (fun aw=>?_)
 ·rw[mD aw]at aa;rw[mD (a.1▸aw)]at ab;exact a.2 i x v aa ab
 ·rw[iR (uE ‹_›)]at aa;rw[iR (by have:=a.1;exact Mt ‹_› ‹_›)]at ab;rw[a.1]at ab;exact b.2 _ x v aa ab
noncomputable def cM(W:a3):List X→List Value→Prop
 |[],[]=>True
 |x::xs,v::vs=>b8 W x v∧cM W xs vs
 |_,_=>False
theorem cM.mono{W W':a3}(h:W.le W'):∀{xs:List X} {vs:List Value},cM W xs vs→cM W' xs vs
 |[],[],_=>trivial
 |_::_,_::_,r=>⟨r.1.mono h,cM.mono h r.2⟩
 |[],_::_,r=>r.elim
 |_::_,[],r=>r.elim
noncomputable def iW(bd:Nat):X→Prop
 | .v _=>True
 | .cell j=>j<bd
inductive LstAt(W:a3)(h:Heap)(q:Addr×Addr)(xs:List V):Prop where
 |mk (e:q.1=q.2) (vs:List Value) (p:h.PlainList q.2 vs.toArray) (r:b5 W xs vs):LstAt W h q xs
inductive D8(w:World)(W:a3)(h:Heap)(q:Addr×Addr)(kvs:List (Int×V)):Prop where
 |mk (e:q.1=q.2∧(q.2==sysModules)=false) (a6:List (Int×Value)) (d:h.DictOf (intKind a4 w) q.2 a6) (k:a6.map (·.1)=kvs.map (·.1)) (r:b5 W (kvs.map (·.2)) (a6.map (·.2))):D8 w W h q kvs
inductive D9(w:World)(W:a3)(h:Heap)(bd:Nat)(q:Addr×Addr)(kvs:List (Nat×X)):Prop where
 |mk (e:q.1=q.2∧(q.2==sysModules)=false) (a6:List (Str×Value)) (d:h.DictOf (strKind a4 w) q.2 a6) (k:a6.map (·.1)=kvs.map (fun x=>nm x.1)) (r:cM W (kvs.map (·.2)) (a6.map (·.2))) (b:∀x∈kvs,iW bd x.2):D9 w W h bd q kvs
inductive D'(W:a3)(h:Heap)(bd:Nat)(q:Addr×Addr)(c:Nat)(fs:List (Nat×X)):Prop where
 |mk (f:W.F q.1 (instObj (dE c) q.2)) (m:Str→Option Value) (hm:h.Ns1 q.2 m) (ex:∀s v,m s=I v→∃n y,s=nm n∧er n fs=I y) (g:∀n y,er n fs=I y→iW bd y∧∃v,m (nm n)=I v∧b8 W y v):D' W h bd q c fs
noncomputable def e'(w:World)(W:a3)(h:Heap)(bd:Nat)(q:Addr×Addr):Cell→Prop
 | .gone=>True
 | .lst xs=>LstAt W h q xs
 | .cw kvs=>D8 w W h q kvs
 | .e9 kvs=>D9 w W h bd q kvs
 | .inst c fs=>D' W h bd q c fs
structure bS where
 env:Env
 vars:List (Str×Nat)
 bd:Nat→Nat
 so:List Str
noncomputable def bS.e2(fm:bS)(x:Str):Option NameKind:=if x∈fm.so then I .free else fm.env.kindOf x
theorem bS.n4{fm:bS}{x:Str}{k:NameKind}(h:fm.e2 x=I k)(ai:k≠ .free):fm.env.kindOf x=I k:=by
 unfold bS.e2 at h
 split at h
 ·cases h;exact absurd rfl ai
 ·exact h
noncomputable def sr:Cell→Bool
 | .gone=>false
 |_=>true
inductive qL(W:a3)(v:Option Value)(y:X):Prop where
 |mk (z:Value) (e:v=I z) (r:b8 W y z):qL W v y
theorem qL.mono{W W':a3}{v:Option Value}{y:X}(h:W.le W')(x:qL W v y):qL W' v y:=by obtain⟨z,e,r⟩:=x;exact⟨z,e,r.mono h⟩
inductive hv(fm:bS)(a:Addr):Prop where
 |loc (e:a=fm.env.locals):hv fm a
 |cell (x:Str) (i:Nat) (aa:fm.vars.lookup x=I i) (ab:fm.e2 x=I .cell) (aq:fm.env.cells.lookup x=I a):hv fm a
def NG(W:a3)(fm:bS)(loc:List (Option X))(m:Str→Option Value):Prop:=∀x (i:Nat) v,fm.vars.lookup x=I i→fm.e2 x=I .local→loc[i]? =I (I v)→qL W (m x) v
def SlotG(W:a3)(loc:List (Option X))(i:Nat)(v:Option Value):Prop:=∀y,loc[i]? =I (I y)→qL W v y
inductive yK(W:a3)(fm:bS)(loc:List (Option X))(h:Heap):Prop where
 |mk (m:Str→Option Value) (hm:h.Ns fm.env.locals m) (g:NG W fm loc m):yK W fm loc h
inductive yL(W:a3)(fm:bS)(loc:List (Option X))(h:Heap)(x:Str)(i:Nat):Prop where
 |mk (c:Addr) (v:Option Value) (e:fm.env.cells.lookup x=I c) (n:c≠fm.env.locals) (f:h.IsCell c v) (g:SlotG W loc i v):yL W fm loc h x i
inductive u5(G:Addr→Obj→Prop)(W:a3)(fm:bS)(loc:List (Option X))(x:Str)(i:Nat):Prop where
 |mk (c:Addr) (v:Option Value) (o:Obj) (e:fm.env.cells.lookup x=I c) (g:G c o) (d:o.data= .cell v) (r:SlotG W loc i v):u5 G W fm loc x i
structure ky(G:Addr→Obj→Prop)(W:a3)(fm:bS)(loc:List (Option X))(h:Heap):Prop where
 ns:yK W fm loc h
 jq:∀x (i:Nat),fm.vars.lookup x=I i→fm.e2 x=I .cell→yL W fm loc h x i
 jr:∀x (i:Nat),fm.vars.lookup x=I i→fm.e2 x=I .free→u5 G W fm loc x i
inductive gD(p:List (Addr×Addr))(l:List Cell)(i:Nat)(c:Cell)(q:Addr×Addr):Prop where
 |mk (aa:l[i]? =I c) (ab:sr c=true) (aq:p[i]? =I q):gD p l i c q
inductive yM(p:List (Addr×Addr))(fm:bS)(l:List Cell)(a:Addr):Prop where
 |fr (h:hv fm a):yM p fm l a
 |hp (i:Nat) (c:Cell) (q:Addr×Addr) (h:gD p l i c q) (e:q.2=a):yM p fm l a
abbrev fT(W:a3)(fm:bS)(st:St)(a:Addr):Prop:=yM W.p fm st.heap a
theorem hv.eq{fm:bS}{a b:Addr}(h:hv fm b)(e:a=b):hv fm a:=e▸h
noncomputable def hx(fm:bS)(b n i:Nat):Nat:=if i<b then fm.bd i else n
theorem yN{fm:bS}{b n i:Nat}(h:b≤i):hx fm b n i=n:=if_neg (kW.mpr h)
theorem yO{fm:bS}{b n i:Nat}(h:i<b):hx fm b n i=fm.bd i:=if_pos h
structure Rel(w:World)(ae:Heap)(G:Addr→Obj→Prop)(W:a3)(fm:bS)(st:St)(s:Shared):Prop where
 cD:∀a o,W.F a o→s.heap.get? a=I o
 e3:∀a o,G a o→s.heap.get? a=I o
 len:W.p.length=st.heap.length
 tag:W.t.length=st.tag
 cl:∀{i c q},gD W.p st.heap i c q→e' w W s.heap (hx fm st.base st.heap.length i) q c
 apart:∀{i j c d q r},gD W.p st.heap i c q→gD W.p st.heap j d r→q.2=r.2→i=j
 fU:∀a,fT W fm st a→∀o,¬W.F a o
 eB:∀a,fT W fm st a→∀o,¬G a o
 g':∀{i c q},gD W.p st.heap i c q→¬hv fm q.2
 lo:ky G W fm st.loc s.heap
 gens:s.gens= #[]
 cP:st.base≤st.heap.length
 fz:∀a o br,W.F a o→¬G a br
 base:∀a o,ae.get? a=I o→W.F a o
 above:ae.objs.size≤fm.env.locals
 n5:∀i,i<st.base→fm.bd i≤st.base
structure cH(w:World)(ae:Heap)(cb cm:Str→Option Value):Prop where
 K:(H.c7 w.params).In ae
 g:ae.Ns mainGlobals cb
 b:ae.Ns builtinsNs cm
 lim:ae.NoLimit
 blt:∀x:Str,x≠"__name__"→cm x=bootBuiltins x
structure d1(n:Nat)(A:Around):Prop where
 h:A.handled=J
 d:A.depth+3*n+110<recursionLimit
 u:A.units+60*n+60<cLine
inductive d9(w:World)(ae:Heap)(G:Addr→Obj→Prop)(W:a3)(fm:bS)(s:Shared)(st':St)(x:X)(v:Value)(s':Shared):Prop where
 |mk (W':a3) (l:W.le W') (R:Rel w ae G W' fm st' s') (r:b8 W' x v) (o:s'.os=s.os):d9 w ae G W fm s st' x v s'
noncomputable abbrev bL:Value→Shared→Prop:=fun ag ag=>False
structure Off(G:Addr→Obj→Prop)(W:a3)(fm:bS)(st:St)(a:Addr):Prop where
 o:¬fT W fm st a
 f:∀o,¬W.F a o
 g:∀o,¬G a o
noncomputable def NH:List Addr:=[89,96,103,110,145,174,258,272,293,315,336,357,378,390,417,424,431,452,473,494,508,515,522,529,536,543,550,557,564,571,576,583,590,597,604,611,618,625,632,639,646,653,660,667,674,679,686,693,698,705,712,719,724,729,734]
def ha(f:Nat):Addr:=NH.getD f 0
structure px(n:Nat)(A:Around):Prop where
 h:A.handled=J
 d:A.depth+3*n+108<recursionLimit
 u:A.units+60*n+40<cLine
structure eC(w:World)(ae:Heap)(C:Calls)(n:Nat):Prop where
 fn:∀{A G W fm st s f xs us x h t},px n A→Rel w ae G W fm st s→cM W xs us→f<55→C f xs st.heap st.tag st.heap.length=I (x,h,t)→wpAny (model a4 w) A (call (.ref (ha f)) us) (d9 w ae G W fm s {st with heap:=h,tag:=t} x) bL s
 init:∀{A G W fm st s c xs us h t x dx},px n A→Rel w ae G W fm st s→cM W xs us→c<11→s.heap.get? x=I (instObj (dE c) dx)→s.heap.get? dx=I emptyDict→Off G W fm st x→Off G W fm st dx→x≠dx→C (gC c) (.cell st.heap.length::xs) (st.heap++[.inst c []]) st.tag st.heap.length=I (.v .bB,h,t)→codeAny (model a4 w) A (.call (.ref (ha (gC c))) ⟨.ref x::us,[]⟩) (fun r s'=>r= .ok (.ret .none)∧∃W',W.le W'∧W'.p=W.p∧Rel w ae G W' fm {st with heap:=h.take st.heap.length,tag:=t} s'∧h.length=st.heap.length+1∧(∀dr fs,h[st.heap.length]? =I (.inst dr fs)→Off G W' fm {st with heap:=h.take st.heap.length,tag:=t} dx∧e' w {W' with p:=W'.p++[(x,dx)]} s'.heap (st.heap.length+1) (x,dx) (.inst dr fs))∧s'.os=s.os) s
def jZ(fm:bS)(st:St)(sc:Scope)(env:Env):bS:=⟨env,slotsOf sc,hx fm st.base st.heap.length,[]⟩
inductive Ea(env:Env)(h aa:Heap)(y:Str):Prop where
 |mk (c:Addr) (v:Option Value) (e:env.cells.lookup y=I c) (n:c≠env.locals) (f:aa.IsCell c v) (z:h.get? c=J):Ea env h aa y
structure Made(fm:bS)(st:St)(s:Shared)(sc:Scope)(env:Env)(aa:Heap):Prop where
 es:env.scope=sc
 nd:(sc.names.map (·.1)).Nodup
 loc:env.locals=s.heap.objs.size
 keep:∀b o,s.heap.get? b=I o→aa.get? b=I o
 ns:∃m,aa.Ns env.locals m
 cells:∀y (i:Nat),(slotsOf sc).lookup y=I i→(jZ fm st sc env).e2 y=I .cell→Ea env s.heap aa y
def Eb(w:World)(ae:Heap)(G0:Addr→Obj→Prop)(W1:a3)(fm:bS)(st:St)(ext:List Cell)(s:Shared):Prop:=∀{sc:Scope} {env:Env} {j0:Heap} {tk:Nat},Made fm st s sc env j0→Rel w ae G0 W1 (jZ fm st sc env) {st with loc:=[],base:=st.heap.length,heap:=st.heap++ext} {s with heap:=j0,toks:=tk}
noncomputable def Ec(W:a3)(v:Value):R→Prop
 | .ret x=>b8 W x v
 |_=>v= .none
def yP(w:World)(ae:Heap)(C:Calls)(n:Nat):Prop:=∀{A:Around} {W1:a3} {fm:bS} {st et:St} {s:Shared} {f:Nat},f<55→∀{fn:l2},bl f=I fn→px (n+1) A→∀{ext:List Cell} {G0:Addr→Obj→Prop},(∀b o,ae.get? b=I o→s.heap.get? b=I o)→(∀a o,ae.get? a=I o→W1.F a o)→Eb w ae G0 W1 fm st ext s→∀{xs:List X} {us:List Value},cM W1 xs us→xs.length≤fn.np→fn.np≤xs.length+fn.dflt.length→∀{r:Mine.R} {kz:Result→Shared→Prop},bI C fn.body ⟨(xs++(fn.dflt.drop (fn.dflt.length-(fn.np-xs.length))).map X.v).map I++xM (fn.ns-fn.np) J,st.heap++ext,st.tag,st.heap.length⟩=I (r,et)→(∀{fm':bS} {eD:a3} {h6:Shared} {v:Value},W1.le eD→Rel w ae G0 eD fm' et h6→(∀i,fm'.bd i=hx fm st.base st.heap.length i)→Ec eD v r→h6.os=s.os→kz (.ok (.ret v)) h6)→codeAny (model a4 w) A (.call (.ref (ha f)) ⟨us,[]⟩) kz s
structure mR where
 w:World
 ae:Heap
 cb:Str→Option Value
 cm:Str→Option Value
 n:Nat
def su(k:mR):Prop:=cH k.w k.ae k.cb k.cm→eC k.w k.ae (bu bl k.n) k.n→eC k.w k.ae (bu bl (k.n+1)) (k.n+1)∧yP k.w k.ae (bu bl k.n) k.n
theorem mR.some:Nonempty mR:=⟨⟨⟨fun ag ag=>0,{strHash:=fun ag=>0,shareClass:=fun ag=>0,mergeTok:=id,idOf:=fun ag=>0,idOfShared:=fun ag ag=>0,followText:=fun ag=>false,idOfImm:=fun ag=>0}⟩,default,fun ag=>J,fun ag=>J,0⟩⟩
def qM:mR:= @Classical.epsilon mR mR.some fun k=>¬su k
def w:World:=qM.w
def ae:Heap:=qM.ae
def cb:Str→Option Value:=qM.cb
def cm:Str→Option Value:=qM.cm
def n:Nat:=qM.n
def C:Calls:=bu bl n
theorem NI(h:su qM)(k:mR):su k:=eA fun x=>absurd h (@Classical.epsilon_spec mR (fun k=>¬su k) ⟨k,x⟩)
variable{G:Addr→Obj→Prop}{W W':a3}{fm:bS}{st:St}{s:Shared}
theorem DictOf.at'{K:Type}[DecidableEq K]{knd:KeyKind a4 w K}{h h':Heap}{a:Addr}{a6:List (K×Value)}(x:h.DictOf knd a a6)(ai:∀o,h.get? a=I o→h'.get? a=I o):h'.DictOf knd a a6:=by obtain⟨o,es,ep,aO,r⟩:=x;exact⟨o,es,ep,ai o aO,r⟩
theorem IsCell.at'{h h':Heap}{a:Addr}{v}(x:h.IsCell a v)(ai:∀o,h.get? a=I o→h'.get? a=I o):h'.IsCell a v:=by obtain⟨o,aO,r⟩:=x;exact⟨o,ai o aO,r⟩
theorem e'.at'{h h':Heap}{bd:Nat}{q:Addr×Addr}{c:Cell}(x:e' w W h bd q c)(ai:∀o,h.get? q.2=I o→h'.get? q.2=I o):e' w W h' bd q c:=by
 induction c using Cell.casesOn with
 |gone=>trivial
 |lst xs=>obtain⟨e,vs,p,r⟩:=x;exact⟨e,vs,p.at ai,r⟩
 |cw kvs=>obtain⟨e,a6,p,k,r⟩:=x;exact⟨e,a6,DictOf.at' p ai,k,r⟩
 |e9 kvs=>obtain⟨e,a6,p,k,r,b⟩:=x;exact⟨e,a6,DictOf.at' p ai,k,r,b⟩
 |inst c fs=>obtain⟨e,m,p,ex,g⟩:=x;exact⟨e,m,p.at ai,ex,g⟩
theorem iW.mono{a b:Nat}(h:a≤b){x:X}(c:iW a x):iW b x:=by induction x using X.casesOn with|v _=>trivial|cell j=>exact ey c h
theorem e'.mono(eG:W.le W'){h:Heap}{bd Ed:Nat}(ae:bd≤Ed){q:Addr×Addr}{c:Cell}(x:e' w W h bd q c):e' w W' h Ed q c:=by
 induction c using Cell.casesOn with
 |gone=>trivial
 |lst xs=>obtain⟨e,vs,p,r⟩:=x;exact⟨e,vs,p,r.mono eG⟩
 |cw kvs=>obtain⟨e,a6,p,k,r⟩:=x;exact⟨e,a6,p,k,r.mono eG⟩
 |e9 kvs=>obtain⟨e,a6,p,k,r,b⟩:=x;exact⟨e,a6,p,k,r.mono eG,fun y aV=>(b y aV).mono ae⟩
 |inst c fs=>obtain⟨e,m,p,ex,r⟩:=x;exact⟨eG.F _ _ e,m,p,ex,fun n y aA=>⟨(r n y aA).1.mono ae,by obtain⟨v,a,b⟩:=(r n y aA).2;exact⟨v,a,b.mono eG⟩⟩⟩
theorem Ns.at'{h h':Heap}{a:Addr}{m}(x:h.Ns a m)(ai:∀o,h.get? a=I o→h'.get? a=I o):h'.Ns a m:=by obtain⟨o,es,ep,e,r⟩:=x;exact⟨o,es,ep,ai o e,r⟩
theorem Ns.alive{h:Heap}{a:Addr}{m}(x:h.Ns a m):∃o,h.get? a=I o:=by obtain⟨o,_,_,e,_⟩:=x;exact⟨o,e⟩
theorem ky.keep{iA:Addr→Obj→Prop}{loc:List (Option X)}{h h':Heap}(L:ky G W fm loc h)(eG:W.le W')(dF:∀a o,G a o→iA a o)(ai:∀a,hv fm a→∀o,h.get? a=I o→h'.get? a=I o):ky iA W' fm loc h' where
 ns:=by obtain⟨m,hm,g⟩:=L.ns;exact⟨m,Ns.at' hm (ai _ (.loc rfl)),fun x i v a b c=>(g x i v a b c).mono eG⟩
 jq:=fun x i a b=>by obtain⟨c,v,e,n,f,g⟩:=L.jq x i a b;exact⟨c,v,e,n,IsCell.at' f (ai c (.cell x i a b e)),fun y aV=>(g y aV).mono eG⟩
 jr:=fun x i a b=>by obtain⟨c,v,o,e,g,d,r⟩:=L.jr x i a b;exact⟨c,v,o,e,dF _ _ g,d,fun y aV=>(r y aV).mono eG⟩
theorem ky.mono{loc:List (Option X)}{h:Heap}(L:ky G W fm loc h)(eG:W.le W'):ky G W' fm loc h:=L.keep eG (fun ag ag g=>g) fun ag ag ag e=>e
theorem ky.alive{loc:List (Option X)}{h:Heap}(L:ky G W fm loc h){a:Addr}(f:hv fm a):∃o,h.get? a=I o:=by
 rcases f with e|⟨x,i,aa,ab,aq⟩
 ·obtain⟨m,hm,_⟩:=L.ns;exact e▸Ns.alive hm
 ·obtain⟨c,v,e,_,⟨o,aO,_⟩,_⟩:=L.jq x i aa ab;exact⟨o,Option.some.inj (e.symm.trans aq)▸aO⟩
theorem Rel.ns(R:Rel w ae G W fm st s):yK W fm st.loc s.heap:=R.lo.ns
theorem Rel.jq(R:Rel w ae G W fm st s)(x:Str)(i:Nat)(aa:fm.vars.lookup x=I i)(ab:fm.e2 x=I .cell):yL W fm st.loc s.heap x i:=R.lo.jq x i aa ab
theorem Rel.jr(R:Rel w ae G W fm st s)(x:Str)(i:Nat)(aa:fm.vars.lookup x=I i)(ab:fm.e2 x=I .free):u5 G W fm st.loc x i:=R.lo.jr x i aa ab
theorem Rel.cells(R:Rel w ae G W fm st s)(i:Nat)(c:Cell)(q:Addr×Addr)(aa:st.heap[i]? =I c)(ab:W.p[i]? =I q):e' w W s.heap (hx fm st.base st.heap.length i) q c:=by
 refine bZ (fun h:sr c=true=>?_) (fun h=>?_)
 ·exact R.cl ⟨aa,h,ab⟩
 ·cases c<;>first|trivial|exact absurd rfl h
theorem e'.alive{h:Heap}{bd:Nat}{q:Addr×Addr}{c:Cell}(x:e' w W h bd q c)(ar:sr c=true):∃o,h.get? q.2=I o:=by
 induction c using Cell.casesOn with
 |gone=>cases ar
 |lst xs=>obtain⟨e,vs,⟨n,p⟩,r⟩:=x;exact⟨_,p⟩
 |cw kvs=>obtain⟨e,a6,⟨o,_,_,aO,_⟩,r⟩:=x;exact⟨o,aO⟩
 |e9 kvs=>obtain⟨e,a6,⟨o,_,_,aO,_⟩,r⟩:=x;exact⟨o,aO⟩
 |inst c fs=>obtain⟨e,m,hm,r⟩:=x;exact Ns.alive hm.ns
theorem Rel.alive(R:Rel w ae G W fm st s){a:Addr}(h:fT W fm st a):∃o,s.heap.get? a=I o:=by
 rcases h with h|⟨i,c,q,l,e⟩
 ·exact R.lo.alive h
 ·exact e▸(R.cl l).alive l.2
theorem Rel.u6(R:Rel w ae G W fm st s){h':Heap}{k:Nat}(ai:∀b o,s.heap.get? b=I o→fT W fm st b∨W.F b o∨G b o→h'.get? b=I o):Rel w ae G W fm st {s with heap:=h',toks:=k}:={R with
  cD:=fun a o f=>ai _ _ (R.cD a o f) (.inr (.inl f))
  e3:=fun a o g=>ai _ _ (R.e3 a o g) (.inr (.inr g))
  cl:=fun{i c q} l=>(R.cl l).at' fun o e=>ai _ _ e (.inl (.hp i c q l rfl))
  lo:=R.lo.keep .rfl (fun ag ag g=>g) fun a f o e=>ai a o e (.inl (.fr f))}
theorem Rel.keep(R:Rel w ae G W fm st s){h':Heap}{k:Nat}(ai:∀b o,s.heap.get? b=I o→h'.get? b=I o):Rel w ae G W fm st {s with heap:=h',toks:=k}:=R.u6 fun b o e ag=>ai b o e
theorem Rel.toks(R:Rel w ae G W fm st s){k:Nat}:Rel w ae G W fm st {s with toks:=k}:=R.keep fun ag ag e=>e
noncomputable def a3.iB(W:a3)(a:Addr)(o:Obj):a3:={W with F:=fun x y=>W.F x y∨(x=a∧y=o)}
theorem a3.gE{a:Addr}{o:Obj}:W.le (W.iB a o):=⟨fun ag ag h=>.inl h,ir _,ir _⟩
theorem mS{o:Option Obj}{x:Obj}(h:o=J)(e:o=I x):False:=by rw[h]at e;cases e
theorem Rel.Ee(R:Rel w ae G W fm st s){a:Addr}(h:s.heap.get? a=J):Off G W fm st a:=⟨fun aO=>(R.alive aO).elim fun ag e=>mS h e,fun ag f=>mS h (R.cD _ _ f),fun ag g=>mS h (R.e3 _ _ g)⟩
theorem Rel.h7(R:Rel w ae G W fm st s){a:Addr}(h:s.heap.objs.size≤a):Off G W fm st a:=R.Ee (Heap.get?_none_of_le h)
theorem fT.off{a b:Addr}(h:fT W fm st a)(x:Off G W fm st b):a≠b:=fun e=>x.o (e▸h)
theorem Off.ne{a b:Addr}{o:Obj}(x:Off G W fm st b)(h:fT W fm st a∨W.F a o∨G a o):a≠b:=fun e=>h.elim (fun h=>x.o (e▸h)) fun h=>h.elim (fun f=>x.f _ (e▸f)) fun g=>x.g _ (e▸g)
theorem Off.aaC{a b:Addr}(x:Off G W fm st b)(h:hv fm a):a≠b:=fT.off (.fr h) x
theorem Rel.mT(R:Rel w ae G W fm st s){a:Addr}{o:Obj}(off:Off G W fm st a)(aO:s.heap.get? a=I o):Rel w ae G (W.iB a o) fm st s:={R with
  cD:=fun b br f=>f.elim (R.cD b br) fun e=>e.1▸e.2▸aO
  cl:=fun l=>(R.cl l).mono a3.gE (bE _)
  fU:=fun b h br f=>f.elim (R.fU b h br) fun e=>off.o (e.1▸h)
  eB:=R.eB
  lo:=R.lo.mono a3.gE
  fz:=fun b a0 cK f g=>f.elim (fun f=>R.fz b a0 cK f g) fun e=>off.g cK (e.1▸g)
  base:=fun a o h=>.inl (R.base a o h)}
theorem Rel.Ef(R:Rel w ae G W fm st s){o:Obj}(hf:o.isFreed=false){k:Nat}:Rel w ae G (W.iB s.heap.objs.size o) fm st {s with heap:=s.heap.push o,toks:=k}:=(R.keep fun ag ag e=>Heap.get?_push_of_some o e).mT (R.h7 (bE _)) (Heap.get?_push_size _ hf)
theorem Rel.but(R:Rel w ae G W fm st s){a:Addr}(aO:fT W fm st a){h':Heap}(aL:Heap.SameBut a s.heap h'){b:Addr}{o:Obj}(h:W.F b o∨G b o):h'.get? b=I o:=by
 refine eF (h) (fun f=>?_) (fun g=>?_)
 ·exact(aL.2 b fun e=>R.fU a aO o (e▸f)).trans (R.cD _ _ f)
 ·exact(aL.2 b fun e=>R.eB a aO o (e▸g)).trans (R.e3 _ _ g)
theorem Eg{l:List (Option X)}{i j:Nat}{x:Option X}:(l.set i x)[j]? =if i=j∧i<l.length then I x else l[j]? :=by
 erw[LF];refine bZ (fun h:i=j=>?_) (fun h=>?_)
 ·subst h;refine bZ (fun ab:i<l.length=>?_) (fun ab=>?_)
  ·erw[if_pos rfl,if_pos ab,if_pos ⟨rfl,ab⟩]
  ·erw[if_pos rfl,if_neg ab,if_neg fun e=>ab e.2,jd (Nat.le_of_not_lt ab)]
 ·erw[if_neg h,if_neg fun e=>h e.1]
inductive yQ(l:List (Option X))(i:Nat)(v:X)(j:Nat)(u:X):Prop where
 |same (e:i=j) (h:v=u):yQ l i v j u
 |other (n:¬(i=j∧i<l.length)) (h:l[j]? =I (I u)):yQ l i v j u
theorem u7{l:List (Option X)}{i j:Nat}{v u:X}(h:(l.set i (I v))[j]? =I (I u)):yQ l i v j u:=by
 rw[Eg]at h
 rcases pw h with⟨e,h⟩|⟨n,h⟩
 ·exact .same e.1 (Option.some.inj (Option.some.inj h))
 ·exact .other n h
theorem SlotG.set{loc:List (Option X)}{i j:Nat}{v:X}{o:Option Value}(g:SlotG W loc j o)(h:i≠j):SlotG W (loc.set i (I v)) j o:=fun y aV=>by
 rcases u7 aV with⟨e,_⟩|⟨_,e⟩
 ·exact absurd e h
 ·exact g y e
theorem u9{fm:bS}{x y:Str}{a b:NameKind}(aa:fm.e2 x=I a)(ab:fm.e2 y=I b)(n:a≠b)(e:y=x):False:=n (Option.some.inj (aa.symm.trans (e▸ab)))
theorem Eh{h:Heap}{a:Addr}{m h8}(x:h.Ns a m)(y:h.Ns a h8):h8=m:=by obtain⟨o,es,ep,e,d,_,f⟩:=x;obtain⟨br,aaD,aaE,e4,sv,_,sx⟩:=y;cases e.symm.trans e4;cases d.symm.trans sv;exact funext fun z=>(sx z).symm.trans (f z)
theorem Rel.NJ(R:Rel w ae G W fm st s){x:Str}{i:Nat}{v:X}{val:Value}(aC:fm.vars.lookup x=I i)(ai:fm.e2 x=I .local)
  (l5:∀y j,fm.vars.lookup y=I j→j=i→y=x) (aJ:b8 W v val) {m:Str→Option Value} {h':Heap} {k:Nat}
  (hm:s.heap.Ns fm.env.locals m) (aA:h'.Ns fm.env.locals (fun y=>if y=x then I val else m y)) (aL:Heap.SameBut fm.env.locals s.heap h'):Rel w ae G W fm (st.f' i v) {s with heap:=h',toks:=k}:=by
 have aO:fT W fm st fm.env.locals:=.fr (.loc rfl);obtain⟨h8,mU,ar⟩:=R.ns;cases Eh hm mU;refine{R with cD:=fun b o f=>R.but aO aL (.inl f),e3:=fun b o g=>R.but aO aL (.inr g),cl:=fun l=>(R.cl l).at' fun o e=>(aL.2 _ fun e=>R.g' l (.loc e)).trans e,fU:=R.fU,eB:=R.eB,lo:=⟨⟨_,aA,fun y j u aa ab aq=>?_⟩,fun y j aa ab=>?_,fun y j aa ab=>?_⟩}
 ·rcases u7 aq with⟨e,au⟩|⟨n,e⟩
  ·exact⟨val,if_pos (l5 y j aa e.symm),au▸aJ⟩
  ·obtain⟨z,ba,b0⟩:=ar y j u aa ab e;exact⟨z,(if_neg fun sy=>n (by cases sy;cases aC.symm.trans aa;exact⟨rfl,(d7.mp e).1⟩)).trans ba,b0⟩
 ·obtain⟨c,fK,e,n,f,g⟩:=R.jq _ _ aa ab;exact⟨c,fK,e,n,f.sameBut aL n,g.set fun e=>u9 ai ab (by decide) (l5 y j aa e.symm)⟩
 ·obtain⟨c,fK,o,e,g,d,r⟩:=R.jr _ _ aa ab;exact⟨c,fK,o,e,g,d,r.set fun e=>u9 ai ab (by decide) (l5 y j aa e.symm)⟩
theorem Rel.NK(R:Rel w ae G W fm st s){x:Str}{i:Nat}{v:X}{val:Value}{c:Addr}(aC:fm.vars.lookup x=I i)(ai:fm.e2 x=I .cell)
  (ah:fm.env.cells.lookup x=I c) (l5:∀y j,fm.vars.lookup y=I j→j=i→y=x)
  (yR:∀y j,fm.vars.lookup y=I j→fm.e2 y=I .cell→fm.env.cells.lookup y=I c→y=x) (aJ:b8 W v val) {h':Heap} {k:Nat}
  (aA:h'.IsCell c (I val)) (aL:Heap.SameBut c s.heap h'):Rel w ae G W fm (st.f' i v) {s with heap:=h',toks:=k}:=by
 have aO:hv fm c:=.cell x i aC ai ah;have mV:c≠fm.env.locals:=by obtain⟨dr,fK,e,n,_⟩:=R.jq _ _ aC ai;cases ah.symm.trans e;exact n
 obtain⟨m,hm,ar⟩:=R.ns;refine{R with cD:=fun b o f=>R.but (.fr aO) aL (.inl f),e3:=fun b o g=>R.but (.fr aO) aL (.inr g),cl:=fun l=>(R.cl l).at' fun o e=>(aL.2 _ fun e=>R.g' l (aO.eq e)).trans e,fU:=R.fU,eB:=R.eB,lo:=⟨⟨m,hm.sameBut aL (Ne.symm mV),fun y j u aa ab aq=>?_⟩,fun y j aa ab=>?_,fun y j aa ab=>?_⟩}
 ·rcases u7 aq with⟨e,_⟩|⟨_,e⟩
  ·exact(u9 ai ab (by decide) (l5 y j aa e.symm)).elim
  ·exact ar y j u aa ab e
 ·obtain⟨dr,fK,e,n,f,g⟩:=R.jq _ _ aa ab;refine bZ (fun qN:dr=c=>?_) (fun qN=>?_)
  ·subst qN;cases yR y j aa ab e;cases aC.symm.trans aa;refine⟨dr,I val,e,n,aA,fun u hb=>?_⟩
   rcases u7 hb with⟨_,au⟩|⟨n,au⟩
   ·exact⟨val,rfl,au▸aJ⟩
   ·exact absurd ⟨rfl,(d7.mp au).1⟩ n
  ·exact⟨dr,fK,e,n,f.sameBut aL qN,g.set fun pz=>qN (Option.some.inj ((l5 y j aa pz.symm▸e).symm.trans ah))⟩
 ·obtain⟨c,fK,o,e,g,d,r⟩:=R.jr _ _ aa ab;exact⟨c,fK,o,e,g,d,r.set fun e=>u9 ai ab (by decide) (l5 y j aa e.symm)⟩
inductive yS(p:List (Addr×Addr))(l:List Cell)(i:Nat)(dr:Cell)(j:Nat)(d:Cell)(r:Addr×Addr):Prop where
 |same (e:i=j) (au:dr=d) (aq:p[i]? =I r):yS p l i dr j d r
 |other (n:i≠j) (h:gD p l j d r):yS p l i dr j d r
theorem k9{p:List (Addr×Addr)}{l:List Cell}{i j:Nat}{dr d:Cell}{r:Addr×Addr}(h:gD p (l.set i dr) j d r):yS p l i dr j d r:=by
 obtain⟨aa,ab,aq⟩:=h;rw[LF]at aa
 rcases pw aa with⟨e,h⟩|⟨n,h⟩
 ·exact .same e (Option.some.inj (c0 h).2) (e▸aq)
 ·exact .other n ⟨h,ab,aq⟩
theorem sz{p:List (Addr×Addr)}{l:List Cell}{i:Nat}{c:Cell}{q r:Addr×Addr}(h:gD p l i c q)(aq:p[i]? =I r):r=q:=Option.some.inj (aq.symm.trans h.3)
theorem yT{b i j:Nat}{l:List Cell}{c d:Cell}{h:Heap}{q:Addr×Addr}(x:e' w W h (hx fm b l.length j) q d):e' w W h (hx fm b (l.set i c).length j) q d:=by erw[kl];exact x
theorem Rel.setC(R:Rel w ae G W fm st s){i:Nat}{c dr:Cell}{q:Addr×Addr}(ah:st.heap[i]? =I c)(ar:sr c=true)(aE:W.p[i]? =I q){h':Heap}{k:Nat}
  (aL:Heap.SameBut q.2 s.heap h') (aA:e' w W h' (hx fm st.base st.heap.length i) q dr):Rel w ae G W fm (st.setCell i dr) {s with heap:=h',toks:=k}:=by
 have L:gD W.p st.heap i c q:=⟨ah,ar,aE⟩
 have aO:fT W fm st q.2:=.hp i c q L rfl;have own:∀a,fT W fm (st.setCell i dr) a→fT W fm st a:=by
  rintro a (h|⟨j,d,r,l,e⟩)
  ·exact .fr h
  ·rcases k9 l with⟨_,_,aq⟩|⟨_,l⟩
   ·exact e▸sz L aq▸aO
   ·exact .hp j d r l e
 refine{R with cD:=fun b o f=>R.but aO aL (.inl f),e3:=fun b o g=>R.but aO aL (.inr g),len:=R.len.trans (kl ..).symm,cl:=fun{j d r} l=>yT ?_,apart:=fun aM bt h=>?_,fU:=fun a h=>R.fU a (own a h),eB:=fun a h=>R.eB a (own a h),g':=fun l=>?_,lo:=R.lo.keep .rfl (fun ag ag g=>g) fun a f o e=>(aL.2 a fun e=>R.g' L (f.eq e.symm)).trans e,cP:=(kl ..).symm▸R.cP}
 ·rcases k9 l with⟨e,au,aq⟩|⟨n,l⟩
  ·exact e▸au▸sz L aq▸aA
  ·exact(R.cl l).at' fun o e=>(aL.2 _ fun e4=>n (R.apart L l e4.symm)).trans e
 ·rcases k9 aM with⟨ay,_,aa⟩|⟨kA,aM⟩<;>rcases k9 bt with⟨au,_,ab⟩|⟨cT,bt⟩
  ·exact ay.symm.trans au
  ·exact absurd (R.apart L bt (sz L aa▸h)) cT
  ·exact absurd (R.apart L aM (sz L ab▸h.symm)) kA
  ·exact R.apart aM bt h
 ·rcases k9 l with⟨_,_,aq⟩|⟨_,l⟩
  ·exact sz L aq▸R.g' L
  ·exact R.g' l
inductive yU(p:List (Addr×Addr))(l:List Cell)(q:Addr×Addr)(c:Cell)(j:Nat)(d:Cell)(r:Addr×Addr):Prop where
 |new (e:l.length=j) (ay:c=d) (au:q=r):yU p l q c j d r
 |old (e:j<l.length) (h:gD p l j d r):yU p l q c j d r
theorem sA{p:List (Addr×Addr)}{l:List Cell}{q r:Addr×Addr}{c d:Cell}{j:Nat}(ar:p.length=l.length)(h:gD (p++[q]) (l++[c]) j d r):yU p l q c j d r:=by
 obtain⟨aa,ab,aq⟩:=h
 rcases Nat.lt_trichotomy j l.length with h|h|h
 ·exact .old h ⟨(mD h).symm.trans aa,ab,(mD (ar.symm▸h)).symm.trans aq⟩
 ·cases h;exact .new rfl (Option.some.inj (LG.symm.trans aa)) (Option.some.inj ((ar▸LG (l:=p) (a:=q):(p++[q])[l.length]? =I q).symm.trans aq))
 ·cases (jd (b4 (as:=l) (bs:=[c])▸h:(l++[c]).length≤j)).symm.trans aa
theorem Rel.n6(R:Rel w ae G W fm st s){q:Addr×Addr}{c:Cell}(off:Off G W fm st q.2)
  (ah:e' w {W with p:=W.p++[q]} s.heap (st.heap.length+1) q c):Rel w ae G {W with p:=W.p++[q]} fm {st with heap:=st.heap++[c]} s:=by
 have Ei:W.le {W with p:=W.p++[q]}:=⟨fun ag ag h=>h,ir _,o3 _ _⟩
 have own:∀a,fT {W with p:=W.p++[q]} fm {st with heap:=st.heap++[c]} a→fT W fm st a∨q.2=a:=by
  rintro a (h|⟨j,d,r,l,e⟩)
  ·exact .inl (.fr h)
  ·rcases sA R.len l with⟨_,_,au⟩|⟨_,l⟩
   ·exact .inr (au▸e)
   ·exact .inl (.hp j d r l e)
 have len:(st.heap++[c]).length=st.heap.length+1:=b4;refine{R with len:=(b4 (as:=W.p)).trans (R.len▸len.symm),cl:=fun{j d r} l=>?_,apart:=fun aM bt h=>?_,fU:=fun a h o f=>(own a h).elim (fun h=>R.fU a h o f) fun e=>off.f o (e▸f),eB:=fun a h o g=>(own a h).elim (fun h=>R.eB a h o g) fun e=>off.g o (e▸g),g':=fun l h=>?_,lo:=R.lo.mono Ei,cP:=bR R.cP (len▸lN _)}
 ·show e' _ _ _ (hx fm st.base (st.heap++[c]).length j) r d;erw[len]
  rcases sA R.len l with⟨e,ay,au⟩|⟨a',l⟩
  ·exact(show hx fm st.base (st.heap.length+1) j=st.heap.length+1 from if_neg (kW.mpr (e▸R.cP))).symm▸ay▸au▸ah
  ·refine(R.cl l).mono Ei ?_;unfold hx;refine bZ (fun h:j<st.base=>?_) (fun h=>?_)
   ·erw[if_pos h,if_pos h];exact bE _
   ·erw[if_neg h,if_neg h];exact lN _
 ·rcases sA R.len aM with⟨c2,_,x3⟩|⟨_,aM⟩<;>rcases sA R.len bt with⟨eU,_,gq⟩|⟨_,bt⟩
  ·exact c2.symm.trans eU
  ·exact absurd (.hp _ _ _ bt (x3▸h.symm)) off.o
  ·exact absurd (.hp _ _ _ aM (gq▸h)) off.o
  ·exact R.apart aM bt h
 ·rcases sA R.len l with⟨_,_,au⟩|⟨_,l⟩
  ·exact off.o (.fr (au▸h))
  ·exact R.g' l h
theorem aaF{G:Addr→Obj→Prop}{a b:Addr}{o:Obj}(h:G b o)(e:a=b):G a o:=e▸h
theorem Rel.Ej{iA:Addr→Obj→Prop}(R:Rel w ae G W fm st s)(dF:∀a o,G a o→iA a o)(h:∀a o,iA a o→G a o∨(s.heap.get? a=I o∧¬fT W fm st a∧∀br,¬W.F a br)):Rel w ae iA W fm st s:={R with
  e3:=fun a o g=>(h a o g).elim (R.e3 a o) qq
  eB:=fun a aO o g=>(h a o g).elim (R.eB a aO o) fun x=>x.2.1 aO
  lo:=R.lo.keep .rfl dF fun ag ag ag e=>e
  fz:=fun a o br f g=>(h a br g).elim (R.fz a o br f) fun x=>x.2.2 o f}
theorem Rel.yV{iA:Addr→Obj→Prop}(R:Rel w ae iA W fm st s)(dF:∀a o,G a o→iA a o)(jr:∀x (i:Nat),fm.vars.lookup x=I i→fm.e2 x=I .free→u5 G W fm st.loc x i):Rel w ae G W fm st s:={R with e3:=fun a o g=>R.e3 a o (dF _ _ g),eB:=fun a h o g=>R.eB a h o (dF _ _ g),fz:=fun a o br f g=>R.fz a o br f (dF _ _ g),lo:=⟨R.lo.ns,R.lo.jq,jr⟩}
theorem Rel.gone(R:Rel w ae G W fm st s){i:Nat}{c:Cell}{q:Addr×Addr}(L:gD W.p st.heap i c q):Rel w ae G W fm (st.setCell i .gone) s∧Off G W fm (st.setCell i .gone) q.2:=by
 have get {j d r} (l:gD W.p (st.heap.set i .gone) j d r):i≠j∧gD W.p st.heap j d r:=by
  rcases k9 l with⟨_,au,_⟩|⟨n,h⟩
  ·cases au;cases l.2
  ·exact⟨n,h⟩
 have own {a} (h:fT W fm (st.setCell i .gone) a):fT W fm st a∧q.2≠a:=by
  rcases h with h|⟨j,d,r,l,e⟩
  ·exact⟨.fr h,fun e=>R.g' L (e▸h)⟩
  ·exact⟨.hp j d r (get l).2 e,fun e4=>(get l).1 (R.apart L (get l).2 (e4.trans e.symm))⟩
 exact⟨{R with len:=R.len.trans (kl ..).symm,cl:=fun l=>yT (R.cl (get l).2),apart:=fun aM bt h=>R.apart (get aM).2 (get bt).2 h,fU:=fun a h=>R.fU a (own h).1,eB:=fun a h=>R.eB a (own h).1,g':=fun l=>R.g' (get l).2,lo:=R.lo,cP:=(kl ..).symm▸R.cP},⟨fun h=>(own h).2 rfl,R.fU _ (.hp i c q L rfl),R.eB _ (.hp i c q L rfl)⟩⟩
theorem Rel.lend(R:Rel w ae G W fm st s){i:Nat}{xs:List V}{q:Addr×Addr}(ah:st.heap[i]? =I (.lst xs))(aE:W.p[i]? =I q){o:Obj}(aO:s.heap.get? q.2=I o):
  Rel w ae (fun a br=>G a br∨(a=q.2∧br=o)) W fm (st.setCell i .gone) s:=
 have x:=R.gone ⟨ah,rfl,aE⟩
 x.1.Ej (fun ag ag g=>.inl g) fun a br g=>g.imp id fun e=>by cases e.1;cases e.2;exact⟨aO,x.2.o,x.2.f⟩
theorem Rel.back{q:Addr×Addr}{o:Obj}(R:Rel w ae (fun a br=>G a br∨(a=q.2∧br=o)) W fm st s){i:Nat}{xs:List V}(ah:st.heap[i]? =I .gone)(aE:W.p[i]? =I q)(iX:e' w W s.heap 0 q (.lst xs))
  (dF:∀o,¬G q.2 o) (cv:¬hv fm q.2):Rel w ae G W fm (st.setCell i (.lst xs)) s:=by
 have Ek:∀a,fT W fm st a→q.2≠a:=fun a h e=>R.eB a h o (.inr ⟨e.symm,rfl⟩);have own {a} (h:fT W fm (st.setCell i (.lst xs)) a):fT W fm st a∨q.2=a:=by
  rcases h with h|⟨j,d,r,l,e⟩
  ·exact .inl (.fr h)
  ·rcases k9 l with⟨_,_,aq⟩|⟨_,l⟩
   ·exact .inr (by cases aE.symm.trans aq;exact e)
   ·exact .inl (.hp j d r l e)
 have yW:=R.yV (fun ag ag g=>.inl g) fun x j a b=>by
  obtain⟨c,v,br,e,g,d,r⟩:=R.jr _ _ a b
  rcases g with g|⟨ay,au⟩
  ·exact⟨c,v,br,e,g,d,r⟩
  ·obtain⟨_,vs,⟨n,p⟩,_⟩:=iX;cases ay;cases au;cases (R.e3 _ _ (.inr ⟨rfl,rfl⟩)).symm.trans p;cases d
 refine{yW with len:=R.len.trans (kl ..).symm,cl:=fun{j d r} l=>yT ?_,apart:=fun aM bt h=>?_,fU:=fun a h br f=>(own h).elim (fun h=>R.fU a h br f) fun e=>R.fz _ _ _ f (.inr ⟨e.symm,rfl⟩),eB:=fun a h br g=>(own h).elim (fun h=>R.eB a h br (.inl g)) fun e=>dF br (e▸g),g':=fun l=>?_,cP:=(kl ..).symm▸R.cP}
 ·rcases k9 l with⟨_,au,aq⟩|⟨_,l⟩
  ·cases aE.symm.trans aq;exact au▸iX.mono .rfl (fx _)
  ·exact R.cl l
 ·rcases k9 aM with⟨ay,_,aa⟩|⟨kA,aM⟩<;>rcases k9 bt with⟨au,_,ab⟩|⟨cT,bt⟩
  ·exact ay.symm.trans au
  ·cases aE.symm.trans aa;exact absurd h (Ek _ (.hp _ _ _ bt rfl))
  ·cases aE.symm.trans ab;exact absurd h.symm (Ek _ (.hp _ _ _ aM rfl))
  ·exact R.apart aM bt h
 ·rcases k9 l with⟨_,_,aq⟩|⟨_,l⟩
  ·cases aE.symm.trans aq;exact cv
  ·exact R.g' l
theorem Rel.NL(R:Rel w ae G W fm st s){i:Nat}{xs:List V}{q:Addr×Addr}(ah:st.heap[i]? =I (.lst xs))(aE:W.p[i]? =I q):
  ∃o,W.le (W.iB q.2 o)∧Rel w ae G (W.iB q.2 o) fm (st.setCell i .gone) s∧dd (W.iB q.2 o) (.lst xs) (.ref q.1):=by
 obtain⟨e,vs,⟨n,p⟩,r⟩:=R.cells i _ q ah aE;have x:=R.gone ⟨ah,rfl,aE⟩;exact⟨_,a3.gE,x.1.mT x.2 p,e▸ .lst (.inr ⟨rfl,rfl⟩) ⟨n,rfl⟩ r.1 (r.mono a3.gE).2⟩
noncomputable def sC(ae h:Heap)(L:Addr):List (Addr×Obj):=(iQ h.objs.size).filterMap fun a=>if a=L∨(ae.get? a).isSome then J else(h.get? a).map fun o=>(a,o)
theorem yX{ae h:Heap}{L a:Addr}{o:Obj}:(a,o)∈sC ae h L↔a≠L∧ae.get? a=J∧h.get? a=I o:=by
 unfold sC;erw[qr]
 constructor
 ·rintro⟨b,_,bf⟩
  split at bf
  ·cases bf
  ·rename_i aA;obtain⟨br,aO,e⟩:=Z2.mp bf;cases (e);refine⟨fun e=>aA (.inl e),?_,aO⟩;cases aK:ae.get? a with
   |none=>rfl
   |some _=>exact absurd (.inr (by erw[aK];rfl)) aA
 ·rintro⟨aa,ab,aq⟩;refine⟨a,kX.mpr (Heap.lt_size aq),?_⟩;erw[if_neg (by rintro(e|e);exact aa e;rw[ab]at e;cases e),aq]
  rfl
theorem Rel.fr(R:Rel w ae G W fm st s){m}(hm:s.heap.Ns fm.env.locals m):Fr ae fm.env.locals s.heap m:=⟨hm,fun b o e=>R.cD _ _ (R.base b o e),R.above⟩
theorem Rel.news(R:Rel w ae G W fm st s):News ae fm.env.locals s.heap (sC ae s.heap fm.env.locals):=by rintro⟨a,o⟩ hp;obtain⟨aa,ab,aq⟩:=yX.mp hp;exact⟨aq,aa,ab⟩
theorem Rel.NM(R:Rel w ae G W fm st s){m}(hm:s.heap.Ns fm.env.locals m){h':Heap}{k:Nat}(aA:h'.Ns fm.env.locals m)(ai:∀b o,b≠fm.env.locals→s.heap.get? b=I o→h'.get? b=I o):Rel w ae G W fm st {s with heap:=h',toks:=k}:=by
 obtain⟨h8,mU,ar⟩:=R.ns;cases Eh hm mU;exact{R with
  cD:=fun a o f=>ai _ _ (fun e=>R.fU _ (.fr (.loc rfl)) o (e▸f)) (R.cD a o f)
  e3:=fun a o g=>ai _ _ (fun e=>R.eB _ (.fr (.loc rfl)) o (e▸g)) (R.e3 a o g)
  cl:=fun l=>(R.cl l).at' fun o=>ai _ o fun e=>R.g' l (.loc e)
  lo:=⟨⟨_,aA,ar⟩,fun x i a b=>by obtain⟨c,v,e,n,f,g⟩:=R.jq _ _ a b;exact⟨c,v,e,n,IsCell.at' f (ai c · n),g⟩,R.lo.jr⟩}
theorem Rel.El(R:Rel w ae G W fm st s){m}(hm:s.heap.Ns fm.env.locals m){h':Heap}{k:Nat}{news:List (Addr×Obj)}(F:Fr ae fm.env.locals h' m)(N:News ae fm.env.locals h' news)
  (aL:∀p∈sC ae s.heap fm.env.locals,p∈news):Rel w ae G W fm st {s with heap:=h',toks:=k}:=
 R.NM hm F.ns fun b o bf e=>by
  cases aK:ae.get? b with
  |some br=>have:=R.cD _ _ (R.base b br aK);rw[e]at this;cases this;exact F.keep b _ aK
  |none=>exact(N _ (aL _ (yX.mpr ⟨bf,aK,e⟩))).1
theorem Rel.yY(R:Rel w ae G W fm st s){m}(hm:s.heap.Ns fm.env.locals m){h':Heap}{k:Nat}{a:Addr}{o:Obj}(F:Fr ae fm.env.locals h' m)(N:News ae fm.env.locals h' ((a,o)::sC ae s.heap fm.env.locals))(aB:s.heap.objs.size≤a):
  Rel w ae G (W.iB a o) fm st {s with heap:=h',toks:=k}:=
 (R.El (k:=k) hm F N fun p hp=>.tail _ hp).mT (R.h7 aB) (N _ (.head _)).1
end Mine
end
section
open PySem PySem.W PySem.Calls PyProof.Rows
namespace Mine
structure dw(cx:bV)(fm:bS):Prop where
 vars:fm.vars=cx.vars
 kind:fm.env.scope.kind= .function
 ej:∀x (i:Nat),cx.vars.lookup x=I i→fm.e2 x=I .local∨fm.e2 x=I .cell∨(fm.e2 x=I .free∧((fm.env.kindOf x=I .free∧(x==("__classdict__":Str))=false)∨fm.env.kindOf x=I .cell)∧x∈cx.frees)
 inj:∀x y (i:Nat),cx.vars.lookup x=I i→cx.vars.lookup y=I i→x=y
 apart:∀x y (i j:Nat) c,cx.vars.lookup x=I i→cx.vars.lookup y=I j→fm.env.cells.lookup x=I c→fm.env.cells.lookup y=I c→fm.e2 x=I .cell→fm.e2 y=I .cell→x=y
 sD:∀x,x∈cx.cells→fm.env.kindOf x=I .cell
 gl:∀x,x∈cx.sh→fm.env.kindOf x=I .globalImplicit
 glob:fm.env.globals=mainGlobals
 blt:fm.env.builtins=builtinsNs
inductive hy(w:World)(ae:Heap)(G:Addr→Obj→Prop)(W:a3)(fm:bS)(s:Shared)(st':St)(s':Shared):Prop where
 |mk (W':a3) (l:W.le W') (R:Rel w ae G W' fm st' s') (o:s'.os=s.os):hy w ae G W fm s st' s'
section
variable(w:World)(ae:Heap)(C:Calls)(n:Nat)
def bj(cx:bV)(e:Expr):Prop:=∀{aH},aW cx e=I aH→∀{A},d1 n A→∀{G W fm st s x st'},dw cx fm→Rel w ae G W fm st s→aj C aH st=I (x,st')→wpAny (model a4 w) A (eval e fm.env) (d9 w ae G W fm s st' x) bL s
def ST(cx:bV)(e:Expr):Prop:=∀{aH},aW cx e=I aH→∀{A},d1 n A→∀{G W fm st s b st'},dw cx fm→Rel w ae G W fm st s→aj C aH st=I (.v (.bool b),st')→wpAny (model a4 w) A (isTrue e fm.env (eval e fm.env)) (fun b' s'=>b'=b∧hy w ae G W fm s st' s') bL s
end
section
variable{cx:bV}{A:Around}{G:Addr→Obj→Prop}{W:a3}{fm:bS}{st st':St}{s:Shared}
theorem d1.yZ(h:d1 n A){k:Nat}(ai:k≤60):A.units+k<cLine:=gI (nJ (f6 _ _) ai) h.u
theorem d9.self{x:X}{v:Value}{s':Shared}(R:Rel w ae G W fm st' s')(r:b8 W x v)(o:s'.os=s.os):d9 w ae G W fm s st' x v s':=⟨W,.rfl,R,r,o⟩
theorem d9.step{W':a3}{s1:Shared}{x:X}{v:Value}{s':Shared}(h:W.le W')(o:s1.os=s.os)(p:d9 w ae G W' fm s1 st' x v s'):d9 w ae G W fm s st' x v s':=by obtain⟨cN,a,b,c,d⟩:=p;exact⟨cN,h.trans a,b,c,d.trans o⟩
theorem dm{A:Around}{m:Sem Value}{x:X}{Q:Value→Shared→Prop}(h:wpAny (model a4 w) A m (d9 w ae G W fm s st' x) bL s)(k:∀u s₁ W1,W.le W1→Rel w ae G W1 fm st' s₁→b8 W1 x u→s₁.os=s.os→Q u s₁):wpAny (model a4 w) A m Q bL s:=wpAny_mono h (fun u s₁ q=>match q with|⟨W1,a,b,c,d⟩=>k u s₁ W1 a b c d) fun ag ag x=>x
theorem sE{α:Type}{A:Around}{m:Sem α}{Q:α→Shared→Prop}(h:wpAny (model a4 w) A m (fun ag=>hy w ae G W fm s st') bL s)(k:∀u s₁ W1,W.le W1→Rel w ae G W1 fm st' s₁→s₁.os=s.os→Q u s₁):wpAny (model a4 w) A m Q bL s:=wpAny_mono h (fun u s₁ q=>match q with|⟨W1,a,b,d⟩=>k u s₁ W1 a b d) fun ag ag x=>x
theorem l6{A:Around}{m:Sem Bool}{b:Bool}{Q:Bool→Shared→Prop}(h:wpAny (model a4 w) A m (fun b' s'=>b'=b∧hy w ae G W fm s st' s') bL s)(k:∀s₁ W1,W.le W1→Rel w ae G W1 fm st' s₁→s₁.os=s.os→Q b s₁):wpAny (model a4 w) A m Q bL s:=wpAny_mono h (fun u s₁ q=>match q with|⟨e,W1,a,b,d⟩=>e▸k s₁ W1 a b d) fun ag ag x=>x
theorem sel{A:Around}{m:Sem Value}{x:X}{W1:a3}{s₁:Shared}(h:wpAny (model a4 w) A m (d9 w ae G W1 fm s₁ st' x) bL s₁)(l:W.le W1)(o:s₁.os=s.os):wpAny (model a4 w) A m (d9 w ae G W fm s st' x) bL s₁:=wpAny_mono h (fun ag ag q=>q.step l o) fun ag ag x=>x
theorem X.v.NN{a b:V}(h:X.v a=X.v b):a=b:=Option.some.inj (congrArg valOf h)
theorem NO{v:Value}(r:b8 W (.v .bB) v):v= .none:=by cases r;rfl
theorem pA{b:Bool}{v:Value}(r:b8 W (.v (.bool b)) v):v= .bool b:=by cases r;rfl
theorem hQ{i:Int}{v:Value}(r:b8 W (.v (.int i)) v):∃t,v= .int i t:=by cases r with|int i t=>exact⟨t,rfl⟩
theorem k'{e:Expr}(h:bj w ae C n cx e)(he:∀env whole,isTrue e env whole=(do let v←whole;standAt e.pos;holding [v] (truthy v))):ST w ae C n cx e:=by intro aH ah A ax G W fm st s b st' hf R aN;refine wpAny_isTrue_value ?_ (he _ _);refine dm (h ah ax hf R aN) fun v s' W' l de r o=>?_;erw[pA r];exact wpAny_truthy_bool ⟨rfl,W',l,de,o⟩
theorem NP{i:Int}{k:Nat}{p:Pos}:bj w ae C n cx (.Constant (.int i) k p):=by intro aH ah A ax G W fm st s x st' hf R aN;cases ah;cases aN;exact wpAny_Constant_int (.self R.toks (.int i _) rfl)
theorem s_bool{b:Bool}{k:Nat}{p:Pos}:bj w ae C n cx (.Constant (.bool b) k p):=by intro aH ah A ax G W fm st s x st' hf R aN;cases ah;cases aN;exact wpAny_Constant_bool (.self R (.bool b) rfl)
theorem NQ{k:Nat}{p:Pos}:bj w ae C n cx (.Constant .none k p):=by intro aH ah A ax G W fm st s x st' hf R aN;cases ah;cases aN;exact wpAny_Constant_none (.self R .bB rfl)
theorem sF{x:Str}{k:Nat}(h:jW x=I k):x=nm k:=by unfold jW at h;obtain⟨ai,hp,_⟩:=Z3.mp h;unfold dc at hp;unfold nm;erw[je,gp ai];exact beq_iff_eq.mp hp
theorem NR{x:Str}{k:Nat}{p:Pos}:bj w ae C n cx (.Constant (.str x) k p):=by intro aH ah A ax G W fm st s v st' hf R aN;obtain⟨c,aa,rfl⟩:=omap (show(jW x).map _=I aH from ah);cases aN;erw[sF aa];exact wpAny_Constant_str (.self R.toks (.str c _) rfl)
inductive y0(W:a3)(T:String)(xs:List V)(v:Value):Prop where
 |mk (vs:List Value) (l:Addr) (k:Nat) (e:v= .ref l) (f:W.F l {cls:=.type T,data:=.seq vs.toArray k}) (r:b5 W xs vs):y0 W T xs v
theorem lst_inv{xs:List V}{v:Value}(r:dd W (.lst xs) v):y0 W "list" xs v:=by
 cases r with
 |lst f sq l e=>obtain⟨k,rfl⟩:=sq;exact⟨_,_,_,rfl,f,l,e⟩
theorem y1{xs:List V}{v:Value}(r:dd W (.tup xs) v):y0 W "tuple" xs v:=by
 cases r with
 |tup f sq l e=>obtain⟨k,rfl⟩:=sq;exact⟨_,_,_,rfl,f,l,e⟩
theorem y2(R:Rel w ae G W fm st s){xs:List V}{v:Value}(r:dd W (.lst xs) v):∃vs l,v= .ref l∧s.heap.PlainList l vs.toArray∧b5 W xs vs:=by refine eA fun cF=>?_;obtain⟨vs,l,k,e,f,r⟩:=lst_inv r;refine cF ?_;exact⟨vs,l,e,⟨k,R.cD _ _ f⟩,r⟩
theorem n7(R:Rel w ae G W fm st s){xs:List V}{v:Value}(r:dd W (.tup xs) v):∃vs l k,v= .ref l∧s.heap.get? l=I {cls:=.type "tuple",data:=.seq vs.toArray k}∧b5 W xs vs:=by refine eA fun cF=>?_;obtain⟨vs,l,k,e,f,r⟩:=y1 r;refine cF ?_;exact⟨vs,l,k,e,R.cD _ _ f,r⟩
theorem n8{i:Nat}{xs:List V}(h:st.lst i=I xs):st.heap[i]? =I (.lst xs):=by
 obtain⟨c,ah,h⟩:=aU h
 induction c using Cell.casesOn<;>cases h
 exact ah
theorem Em{i:Nat}{xs:List (Int×V)}(h:st.jn i=I xs):st.heap[i]? =I (.cw xs):=by
 obtain⟨c,ah,h⟩:=aU h
 induction c using Cell.casesOn<;>cases h
 exact ah
inductive En(W:a3)(h:Heap)(xs:List V)(v:Value):Prop where
 |mk (vs:List Value) (l:Addr) (e:v= .ref l) (p:h.PlainList l vs.toArray) (r:b5 W xs vs):En W h xs v
theorem n9(R:Rel w ae G W fm st s){x:X}{xs:List V}{v:Value}(r:b8 W x v)(h:st.val x=I (.lst xs)):En W s.heap xs v:=by
 induction x using X.casesOn with
 |v a=>cases h;obtain⟨vs,l,e,p,r⟩:=y2 R r;exact⟨vs,l,e,p,r⟩
 |cell i=>obtain⟨q,aE,rfl⟩:=r;obtain⟨aS,ah,e⟩:=omap h;cases e;obtain⟨e,vs,p,r⟩:=R.cells i _ q (n8 ah) aE;exact⟨vs,q.1,rfl,by erw[e];exact p,r⟩
theorem kB{x:X}{a:V}(h:st.val x=I a)(aA:∀xs,a≠ .lst xs):x= .v a:=by
 induction x using X.casesOn with
 |v b=>cases h;rfl
 |cell i=>obtain⟨aS,ah,e⟩:=omap h;exact absurd e.symm (aA _)
theorem Eo(R:Rel w ae G W fm st s)(hf:dw cx fm){x:Str}{i:Nat}{v:X}(aC:cx.vars.lookup x=I i)(aJ:st.loc[i]? =I (I v)){Q:Value→Shared→Prop}(h:∀y,b8 W v y→Q y s):
  wpAny (model a4 w) A (loadName fm.env x) Q bL s:=by
 rcases hf.ej x i aC with ai|ai|⟨ai,y3,_⟩
 ·obtain⟨m,hm,ar⟩:=R.ns;obtain⟨y,aa,ab⟩:=ar x i v (by erw[hf.vars];exact aC) ai aJ;exact wpAny_loadName_local hf.kind (bS.n4 ai (by decide)) hm aa (h y ab)
 ·obtain⟨c,fK,e,_,f,g⟩:=R.jq x i (by erw[hf.vars];exact aC) ai;obtain⟨z,rfl,ab⟩:=g v aJ;exact wpAny_loadName_cell hf.kind (bS.n4 ai (by decide)) e f (h z ab)
 ·obtain⟨c,fK,o,e,g,d,r⟩:=R.jr x i (by erw[hf.vars];exact aC) ai;obtain⟨z,rfl,ab⟩:=r v aJ
  rcases y3 with⟨l7,y3⟩|l7
  ·exact wpAny_loadName_free hf.kind l7 e ⟨o,R.e3 _ _ g,d⟩ (h z ab) y3
  ·exact wpAny_loadName_cell hf.kind l7 e ⟨o,R.e3 _ _ g,d⟩ (h z ab)
theorem y4{x:Str}(h:dc x "__debug__"=false):(x==("__debug__":Str))=false:=h
theorem u'{x:Str}{i:Nat}(h:cx.var x=I i):cx.vars.lookup x=I i∧dc x "__debug__"=false:=by
 unfold bV.var at h
 split at h
 ·cases h
 ·rename_i aA;exact⟨h,by simpa using aA⟩
theorem Ep{x:Str}(h:cx.gl x=true):x∈cx.sh∧dc x "__debug__"=false:=by unfold bV.gl at h;refine bC (fun a b=>?_) (cC.mp h);exact⟨qs.mp a,by simpa using b⟩
end
end Mine
end
section
open PySem PySem.W PySem.Calls PyProof.Rows
namespace Mine
noncomputable section
section
variable{cx:bV}{A:Around}{G:Addr→Obj→Prop}{W:a3}{fm:bS}{st st':St}{s:Shared}
noncomputable def y5(o:Option (Option Value))(j:Int):Bool:=match o with
 |some (I v)=>(match v with
  | .int i _=>decide (i=j)
  |_=>false)
 |_=>false
theorem Er{o:Option (Option Value)}{j:Int}(h:y5 o j=true):∃t,o=I (I (.int j t)):=by
 induction o using gJ with
 |none=>cases h
 |some o=>induction o using gJ with
  |none=>cases h
  |some v=>induction v using Value.casesOn with
   |int i t=>cases of_decide_eq_true (p:=i=j) h;exact⟨t,rfl⟩
   |_=>cases h
noncomputable def pB(o:Option (Option Value))(a:Addr):Bool:=match o with
 |some (I v)=>(match v with
  | .ref b=>b==a
  |_=>false)
 |_=>false
theorem qO{o:Option (Option Value)}{a:Addr}(h:pB o a=true):o=I (I (.ref a)):=by
 induction o using gJ with
 |none=>cases h
 |some o=>induction o using gJ with
  |none=>cases h
  |some v=>induction v using Value.casesOn with
   |ref b=>cases beq_iff_eq.mp (show(b==a)=true from h);rfl
   |_=>cases h
theorem Es{xs:List V}:∀{ns:List Int},h4 xs=I ns→xs=ns.map .int:=by
 induction xs with
 |nil=>intro ns h;cases h;rfl
 |cons x r aG=>
  intro ns h
  induction x using V.casesOn with
  |int a=>obtain⟨l,aa,rfl⟩:=omap (show(h4 r).map (a:: ·)=_ from h);exact congrArg (V.int a:: ·) (aG aa)
  |_=>cases h
noncomputable def constOk(P:Params)(x:String×V):Bool:=match x.2 with
 | .int j=>y5 (nsIn (H.c7 P) mainGlobals (Str.ofString x.1)) j
 | .tup xs=>pB (nsIn (H.c7 P) mainGlobals (Str.ofString x.1)) 403&&U (h4 xs=I [0,0,0,0,0,0])
 |_=>false
theorem NS(P:Params):constOf.all (constOk P)=true:=by kernel_rfl
theorem NT(P:Params):(H.c7 P).lookup 403=I {cls:=.type "tuple",data:=.seq [.int 0 791,.int 0 792,.int 0 793,.int 0 794,.int 0 795,.int 0 796].toArray 0}:=by kernel_rfl
theorem y6{α:Type}{x:Str}{a:α}{l:List (String×α)}:k5 x l=I a→∃n,(n,a)∈l∧x=Str.ofString n:=by
 induction l with
 |nil=>intro h;cases h
 |cons y r aG=>
  intro h
  rcases h5 (show(if dc x y.1=true then I y.2 else k5 x r)=I a from h)with⟨e,h⟩|h
  ·cases Option.some.inj h;exact⟨y.1,.head _,beq_iff_eq.mp e⟩
  ·obtain⟨n,a,b⟩:=aG h;exact⟨n,.tail _ a,b⟩
theorem NU(aQ:cH w ae cb cm){x:Str}{v:V}(h:k5 x constOf=I v):∃val,cb x=I val∧∀W:a3,(∀a o,ae.get? a=I o→W.F a o)→dd W v val:=by
 obtain⟨aaG,hm,rfl⟩:=y6 h;have ah:=h2.mp (NS w.params) _ hm;clear h hm
 induction v using V.casesOn with
 |int j=>obtain⟨t,ay⟩:=Er ah;exact⟨_,mg_of aQ.K aQ.g ay,fun W ag=>.int j t⟩
 |tup xs=>obtain⟨aa,ab⟩:=cC.mp ah;refine⟨_,mg_of aQ.K aQ.g (qO aa),fun W eG=>?_⟩;erw[Es (of_decide_eq_true ab)];exact let i {k t}:dd W (.int k) (.int k t):=.int k t;let r:=b5.cons i (.cons i (.cons i (.cons i (.cons i (.cons i .nil)))));.tup (eG _ _ (aQ.K _ _ (NT w.params))) ⟨0,rfl⟩ r.1 r.2
 |_=>cases ah
theorem y7(aQ:cH w ae cb cm)(R:Rel w ae G W fm st s)(hf:dw cx fm){x:Str}(aC:cx.gl x=true){v:Value}(aJ:cb x=I v){pos:Pos}{Q:Value→Shared→Prop}(h:Q v s):
  wpAny (model a4 w) A (eval (.Name x pos) fm.env) Q bL s:=by
 obtain⟨a,b⟩:=Ep aC;refine Calls.Name_function_global hf.kind (hf.gl x a) ?_ (y4 b);refine Calls.loadGlobal_global (env:=fm.env) ?_ aJ h;erw[hf.glob];exact aQ.g.keeps fun b o e=>R.cD _ _ (R.base b o e)
theorem NV(aQ:cH w ae cb cm)(R:Rel w ae G W fm st s)(hf:dw cx fm){x:Str}(aC:cx.gl x=true){v:Value}(hm:cb x=J)(aA:x≠"__name__")(aJ:bootBuiltins x=I v){pos:Pos}{Q:Value→Shared→Prop}(h:Q v s):
  wpAny (model a4 w) A (eval (.Name x pos) fm.env) Q bL s:=by
 obtain⟨a,b⟩:=Ep aC;refine Calls.Name_function_global hf.kind (hf.gl x a) ?_ (y4 b);have ai:∀b o,ae.get? b=I o→s.heap.get? b=I o:=fun b o e=>R.cD _ _ (R.base b o e);refine Calls.loadGlobal_builtin (env:=fm.env) ?_ hm ?_ ((aQ.blt x aA).trans aJ) h
 ·erw[hf.glob];exact aQ.g.keeps ai
 ·erw[hf.blt];exact aQ.b.keeps ai
theorem Et(aQ:cH w ae cb cm){x:Str}{p:Pos}:bj w ae C n cx (.Name x p):=by
 intro aH ah A ax G W fm st s v st' hf R aN;have ah:yD cx x=I aH:=ah;unfold yD at ah;generalize aC:cx.var x=o at ah
 induction o using gJ with
 |some i=>cases ah;obtain⟨y,ar,aN⟩:=aU (show(st.loc[i]?).bind _=I (v,st')from aN);obtain⟨z,rfl,aN⟩:=omap aN;cases aN;obtain⟨a,b⟩:=u' aC;exact wpAny_Name (Eo R hf a ar fun y r=>.self R r rfl) (y4 b)
 |none=>obtain⟨aK,ah⟩:=c0 ah;obtain⟨c,aa,rfl⟩:=omap ah;cases aN;obtain⟨val,ab,aq⟩:=NU aQ aa;exact y7 aQ R hf aK ab (.self R (aq W R.base) rfl)
theorem two{a b:Expr}{bx bN:ao}(aB:bj w ae C n cx a)(bf:bj w ae C n cx b)(ca:aW cx a=I bx)(dy:aW cx b=I bN)(ax:d1 n A)(hf:dw cx fm)(R:Rel w ae G W fm st s){x y:X}{s1 s2:St}
  (bT:aj C bx st=I (x,s1)) (cU:aj C bN s1=I (y,s2)) {P:Value→Value→Shared→Prop}
  (h:∀u v W' s',W.le W'→Rel w ae G W' fm s2 s'→s'.os=s.os→b8 W' x u→b8 W' y v→P u v s'):
  wpAny (model a4 w) A (eval a fm.env) (fun u s₁=>wpAny (model a4 w) A (eval b fm.env) (fun v s₂=>P u v s₂) bL s₁) bL s:=
 dm (aB ca ax hf R bT) fun u s₁ W1 aM aZ a8 a0=>dm (bf dy ax hf aZ cU) fun v s₂ cN bt cy b3 cK=>h u v cN s₂ (aM.trans bt) cy (cK.trans a0) (a8.mono bt) b3
theorem NW{a:Int}{k:Nat}(aa: -(k:Int)<a)(ab:a<k):a.natAbs<k:=by
 induction a using Int.casesOn with
 |ofNat n=>exact nM.mp ab
 |negSucc n=>exact nM.mp (Int.lt_of_neg_lt_neg (show-(k:Int)< -((n+1:Nat):Int)from aa))
theorem Eu{a:Int}(h:small a=true):a.natAbs<2^62:=NW (of_decide_eq_true (cC.mp h).1) (of_decide_eq_true (cC.mp h).2)
theorem NX{a:Int}(h:small a=true):a.natAbs.log2<62:=by
 refine bZ (fun e:a.natAbs=0=>?_) (fun e=>?_)
 ·erw[e];decide
 ·exact(Nat.log2_lt e).mpr (Eu h)
theorem Ew{a:Int}(h:small a=true):Builtin.Int.intBits a≤64:=by obtain⟨aa,ab⟩:=cC.mp h;exact intBits_le_64 (uq (by decide) (of_decide_eq_true aa)) (uq (of_decide_eq_true ab) (by decide))
theorem ite_le{c:Prop}[Decidable c]{m k:Nat}(h:m≤k):(if c then 0 else m)≤k:=by
 refine bZ (fun e:c=>?_) (fun e=>?_)
 ·erw[if_pos e];exact fx _
 ·erw[if_neg e];exact h
theorem noPylong{a b:Int}(h:small b=true):Builtin.divisionGoesByPylong a b=false:=Bool.and_eq_false_iff.mpr (.inl (decide_eq_false (kW.mpr (ite_le (bR (jf (Nat.div_le_div_right (c' (NX h)))) (by decide))))))
theorem Ex{a b c d:Nat}(aa:a=c)(ab:b=d)(bw:c+d≤100000):a+b≤sizeLine:=by erw[aa,ab,sizeLine_eq];exact bR bw (by decide)
theorem NY(R:Rel w ae G W fm st s){l b:Addr}{xs aS:List V}{vs us:List Value}(aa:s.heap.PlainList l vs.toArray)(ab:s.heap.PlainList b us.toArray)(a8:b5 W xs vs)(b3:b5 W aS us)(bw:xs.length+aS.length≤100000):
  wpAny (model a4 w) A (binaryOp .Add (.ref l) (.ref b)) (d9 w ae G W fm s st (.v (.lst (xs++aS)))) bL s:=by
 obtain⟨m,hm,_⟩:=R.ns;refine add_lists (R.fr hm) R.news aa.isList ab.isList (fun h' pC hz=>?_) (Ex a8.1 b3.1 bw);exact⟨_,a3.gE,(R.yY hm (k:=s.toks) pC hz (bE _)),.lst (.inr ⟨rfl,rfl⟩) ⟨0,rfl⟩ (a8.append b3).1 ((a8.append b3).mono a3.gE).2,rfl⟩
theorem NZ(R:Rel w ae G W fm st s){xs aS:List V}{u v:Value}(aa:dd W (.tup xs) u)(ab:dd W (.tup aS) v)(bw:xs.length+aS.length≤100000):
  wpAny (model a4 w) A (binaryOp .Add u v) (d9 w ae G W fm s st (.v (.tup (xs++aS)))) bL s:=by
 obtain⟨m,hm,_⟩:=R.ns;obtain⟨vs,l,dH,rfl,ay,a8⟩:=n7 R aa;obtain⟨us,bt,ft,rfl,au,b3⟩:=n7 R ab;refine add_tuples (R.fr hm) R.news ⟨_,ay,rfl,_,rfl⟩ ⟨_,au,rfl,_,rfl⟩ (fun h=>?_) (fun ag h=>?_) (fun ag ag h' pC hz=>?_) (Ex a8.1 b3.1 bw)
 ·have:xs=[]:=by have:=a8.1;rw[h]at this;exact o4 this.symm
  subst this;exact .self R ab rfl
 ·have:aS=[]:=by have:=b3.1;rw[h]at this;exact o4 this.symm
  subst this;rw[ei];exact .self R aa rfl
 ·have de:=R.yY hm (k:=s.toks) pC hz (bE _);exact⟨_,a3.gE,de,.tup (.inr ⟨rfl,rfl⟩) ⟨0,rfl⟩ (a8.append b3).1 ((a8.append b3).mono a3.gE).2,rfl⟩
theorem kC{x:V}{i:Int}(h:intOf x=I i):x= .int i:=by cases x<;>cases h;rfl
theorem qP{x:V}{xs:List V}(h:kq x=I xs):x= .lst xs:=by cases x<;>cases h;rfl
theorem va{x:V}{xs:List V}(h:sb x=I xs):x= .tup xs:=by cases x<;>cases h;rfl
theorem y8{x:V}{b:Bool}(h:boolOf x=I b):x= .bool b:=by cases x<;>cases h;rfl
theorem Ey{x:V}{k:Nat}(h:strOf x=I k):x= .str k:=by cases x<;>cases h;rfl
theorem y9{x:V}{xs:List V}(h:kr x=I xs):x= .lst xs∨x= .tup xs:=by cases x<;>cases h<;>first|exact .inl rfl|exact .inr rfl
theorem l8{x:X}{a:V}{i:Int}{u:Value}(aB:st.val x=I a)(aw:intOf a=I i)(r:b8 W x u):∃t,u= .int i t:=by obtain rfl:=kC aw;cases kB aB (fun ag e=>by cases e);exact hQ r
theorem dO{k:Nat}(h:fit k=true):k≤100000:=of_decide_eq_true h
theorem Ez{b:Bool}(h:¬b=false):b=true:=by cases b<;>first|rfl|exact absurd rfl h
theorem N0(R:Rel w ae G W fm st s){o:Operator}{br:jT}(aO:si o=I br){i j:Int}{t1 e1:Tok}{z:V}(bw:uN br i j=I z):
  wpAny (model a4 w) A (binaryOp o (.int i t1) (.int j e1)) (d9 w ae G W fm s st (.v z)) bL s:=by
 have k {z}:d9 w ae G W fm s st (.v (.int z)) (.int z s.toks) {s with toks:=s.toks+1}:=.self R.toks (.int _ _) rfl;cases o<;>cases aO
 ·cases bw;exact add_int k
 ·cases bw;exact sub_int k
 ·obtain⟨aL,bw⟩:=c0 bw;cases bw;exact mul_int k ((Z4.mp aL).elim (fun h=>IntMulOk.of_left (Ew h)) fun h=>IntMulOk.of_right (Ew h))
 ·obtain⟨a',bw⟩:=hu bw;cases bw;exact mod_int' a' k
 ·obtain⟨⟨aa,ab,aq,ba⟩,bw⟩:=c0 bw;cases bw;exact pow_int_small aa (cZ ab (by decide)) (ey (Eu (cC.mpr ⟨decide_eq_true (uq (by decide) aq),decide_eq_true (uq ba (by decide))⟩)) (by decide)) k
 ·obtain⟨a',bw⟩:=hu bw;cases bw;exact floordiv_int (fun e=>a' (.inl e)) k (.inl (noPylong (Ez fun e=>a' (.inr e))))
theorem N1{o:jT}{a b z:V}(h:uO o a b=I z):(o= .add∧DR a b=I z)∨((intOf a).bind fun i=>(intOf b).bind fun j=>uN o i j)=I z:=by cases o<;>first|exact .inl ⟨rfl,h⟩|exact .inr h
theorem N2{o:Operator}(h:si o=I .add):o= .Add:=by cases o<;>first|rfl|cases h
theorem N3(R:Rel w ae G W fm st s){o:Operator}{br:jT}(aO:si o=I br){x y:X}{u v:Value}(ct:b8 W x u)(dP:b8 W y v){a b z:V}(aB:st.val x=I a)(bf:st.val y=I b)(bw:uO br a b=I z):
  wpAny (model a4 w) A (binaryOp o u v) (d9 w ae G W fm s st (.v z)) bL s:=by
 have num:∀{i j:Int},intOf a=I i→intOf b=I j→uN br i j=I z→wpAny (model a4 w) A (binaryOp o u v) (d9 w ae G W fm s st (.v z)) bL s:=by intro i j aa ab aq;obtain⟨t1,rfl⟩:=l8 aB aa ct;obtain⟨e1,rfl⟩:=l8 bf ab dP;exact N0 R aO aq
 rcases N1 bw with⟨rfl,bw⟩|bw
 ·obtain rfl:=N2 aO
  induction a using V.casesOn with
  |int i=>obtain⟨j,ab,rfl⟩:=omap bw;exact num rfl ab rfl
  |lst xs=>obtain⟨aS,ab,la⟩:=aU bw;obtain rfl:=qP ab;obtain⟨ar,la⟩:=c0 la;cases la;obtain⟨vs,l,rfl,cL,a8⟩:=n9 R ct aB;obtain⟨us,bt,rfl,ck,b3⟩:=n9 R dP bf;exact NY R cL ck a8 b3 (dO ar)
  |tup xs=>obtain⟨aS,ab,la⟩:=aU bw;obtain rfl:=va ab;obtain⟨ar,la⟩:=c0 la;cases la;cases kB aB (fun ag e=>by cases e);cases kB bf (fun ag e=>by cases e);exact NZ R ct dP (dO ar)
  |_=>cases bw
 ·obtain⟨i,aa,bw⟩:=aU bw;obtain⟨j,ab,bw⟩:=aU bw;exact num aa ab bw
theorem l9{x:X}{i:Int}(h:fJ x=I i):x= .v (.int i):=by obtain⟨v,aa,ab⟩:=aU h;cases x<;>cases aa;erw[kC ab]
theorem mW{x:X}{b:Bool}(h:k3 x=I b):x= .v (.bool b):=by obtain⟨v,aa,ab⟩:=aU h;cases x<;>cases aa;erw[y8 ab]
theorem vb{x:X}{xs:List V}(h:xL x=I xs):x= .v (.lst xs):=by obtain⟨v,aa,ab⟩:=aU h;cases x<;>cases aa;erw[qP ab]
theorem EA{x:X}{xs:List V}(h:uS x=I xs):x= .v (.tup xs):=by obtain⟨v,aa,ab⟩:=aU h;cases x<;>cases aa;erw[va ab]
theorem mX{x:X}{i:Nat}(h:jV x=I i):x= .cell i:=by cases x<;>cases h;rfl
theorem l'{x:X}{v:V}(h:valOf x=I v):x= .v v:=by cases x<;>cases h;rfl
theorem N4{a b:Expr}{o:Operator}{p:Pos}(aB:bj w ae C n cx a)(bf:bj w ae C n cx b):bj w ae C n cx (.BinOp a o b p):=by intro aH ah A ax G W fm st s v st' hf R aN;obtain⟨br,aO,ah⟩:=aU (show(si o).bind _=I aH from ah);obtain⟨bx,ca,ah⟩:=aU ah;obtain⟨bN,dy,rfl⟩:=omap ah;obtain⟨x,s1,bT,aa⟩:=b2 (show aY (aj C bx st) _=I (v,st')from aN);clear aN ah;obtain⟨y,s2,cU,ab⟩:=b2 aa;obtain⟨u,ay,aq⟩:=aU ab;obtain⟨q,au,ba⟩:=aU aq;clear aa ab aq;obtain⟨z,bw,b0⟩:=omap ba;cases b0;exact wpAny_BinOp (two aB bf ca dy ax hf R bT cU fun pD fK W' s' l de a0 ct dP=>sel (N3 de aO ct dP ay au bw) l a0)
theorem EB{a:Expr}{p:Pos}(aB:bj w ae C n cx a):bj w ae C n cx (.UnaryOp .USub a p):=by intro aH ah A ax G W fm st s v st' hf R aN;obtain⟨bx,ca,rfl⟩:=omap (show(aW cx a).map ao.neg=I aH from ah);obtain⟨x,s1,bT,aa⟩:=b2 (show aY (aj C bx st) _=I (v,st')from aN);obtain⟨i,aw,ab⟩:=omap aa;cases ab;obtain rfl:=l9 aw;refine wpAny_UnaryOp (dm (aB ca ax hf R bT) fun u s₁ W1 aM aZ a8 a0=>?_);obtain⟨t,rfl⟩:=hQ a8;exact neg_int ⟨W1,aM,aZ.toks,.int _ _,a0⟩
theorem N5{a:Expr}{p:Pos}(aB:bj w ae C n cx a):bj w ae C n cx (.UnaryOp .Not a p):=by intro aH ah A ax G W fm st s v st' hf R aN;obtain⟨bx,ca,rfl⟩:=omap (show(aW cx a).map ao.not=I aH from ah);obtain⟨x,s1,bT,aa⟩:=b2 (show aY (aj C bx st) _=I (v,st')from aN);obtain⟨i,aw,ab⟩:=omap aa;cases ab;obtain rfl:=mW aw;refine wpAny_UnaryOp (dm (aB ca ax hf R bT) fun u s₁ W1 aM aZ a8 a0=>?_);erw[pA a8];exact not_of (wpAny_truthy_bool ⟨W1,aM,aZ,.bool _,a0⟩)
theorem N6{a:Expr}{p:Pos}(aB:ST w ae C n cx a):ST w ae C n cx (.UnaryOp .Not a p):=by intro aH ah A ax G W fm st s v st' hf R aN;obtain⟨bx,ca,rfl⟩:=omap (show(aW cx a).map ao.not=I aH from ah);obtain⟨x,s1,bT,aa⟩:=b2 (show aY (aj C bx st) _=I (_,st')from aN);obtain⟨i,aw,ab⟩:=omap aa;cases ab;obtain rfl:=mW aw;exact wpAny_isTrue_Not (wpAny_mono (aB ca ax hf R bT) (fun u s₁ q=>⟨by erw[q.1],q.2⟩) fun ag ag x=>x)
theorem N7{t a b:Expr}{p:Pos}(a5:ST w ae C n cx t)(aB:bj w ae C n cx a)(bf:bj w ae C n cx b):bj w ae C n cx (.IfExp t a b p):=by
 intro aH ah A ax G W fm st s v st' hf R aN;obtain⟨pt,mI,ah⟩:=aU (show(aW cx t).bind _=I aH from ah);obtain⟨bx,ca,ah⟩:=aU ah;obtain⟨bN,dy,rfl⟩:=omap ah;obtain⟨x,s1,sG,aa⟩:=b2 (show aY (aj C pt st) _=I (v,st')from aN);obtain⟨c,aw,ab⟩:=aU aa;clear aN aa ah;obtain rfl:=mW aw;refine wpAny_IfExp (l6 (a5 mI ax hf R sG) fun s₁ W1 aM aZ a0=>?_)
 induction c using hL with
 |true=>exact sel (aB ca ax hf aZ ab) aM a0
 |false=>exact sel (bf dy ax hf aZ ab) aM a0
end
end
end Mine
end
section
open PySem PySem.W PySem.Calls PyProof.Rows PySem.SeqAt
namespace Mine
noncomputable section
section
variable{cx:bV}{A:Around}{G:Addr→Obj→Prop}{W:a3}{fm:bS}{st st':St}{s:Shared}
theorem ints_of{xs:List V}{ns:List Int}{vs:List Value}(h:h4 xs=I ns)(r:b5 W xs vs):IntsAre vs ns:=by
 cases Es h;clear h
 induction ns generalizing vs with
 |nil=>cases r.u4;exact .nil
 |cons a l aG=>obtain⟨v,q,rfl,a8,b3⟩:=r.sm;cases a8;exact .cons _ _ (aG b3)
theorem y':∀ns ms:List Int,PyData.eqvAll (ns.map PyData.int) (ms.map PyData.int)=U (ns=ms)
 |[],[]|[],_::_|_::_,[]=>rfl
 |n::r,k::q=>(congrArg (U (n=k)&& ·) (y' r q)).trans ((Bool.decide_and ..).symm.trans (decide_eq_decide.mpr ⟨fun h=>h.1▸h.2▸rfl,fun h=>List.cons.inj h⟩))
theorem EC{h:Heap}{a:Addr}{vs:List Value}{k:Nat}{ns:List Int}(ar:h.get? a=I {cls:=.type "tuple",data:=.seq vs.toArray k})(aw:IntsAre vs ns):Reads h (.ref a) (.tuple (ns.map PyData.int)) []:=Reads.tuple ar rfl rfl (by simpa using readsAll_of_ints aw)
theorem ED(ns:List Int):PyData.canLay0 (.tuple (ns.map PyData.int))=true∧PyData.depth (.tuple (ns.map PyData.int))≤2:=by have aa:=W.depthAll_ints ns;exact⟨by simp only[PyData.canLay0];exact canLayAll0_ints ns,by simp only[PyData.depth];exact jf ‹_›⟩
theorem EE(ns:List Int):PyData.canLay0 (.list (ns.map PyData.int))=true∧PyData.depth (.list (ns.map PyData.int))≤2:=by have aa:=W.depthAll_ints ns;exact⟨by simp only[PyData.canLay0];exact canLayAll0_ints ns,by simp only[PyData.depth];exact jf ‹_›⟩
theorem EF{xs aS:List V}{r:Bool}(h:pf xs aS=I r):∃a b,h4 xs=I a∧h4 aS=I b∧r=U (a=b):=by
 unfold pf at h;generalize h4 xs=a0 at h⊢;generalize h4 aS=cK at h⊢
 induction a0 using gJ with
 |none=>cases h
 |some a=>induction cK using gJ with
  |none=>cases h
  |some b=>cases h;exact⟨a,b,rfl,rfl,rfl⟩
def za(A:Around)(s:Shared)(u v:Value)(r:Bool):Prop:=RcAt A s u v r∧RcNeAt A s u v (!r)
theorem EG(ax:d1 n A){mY db:PyData}{u v:Value}{as bs:List Addr}(EH:Reads s.heap u mY as)(EI:Reads s.heap v db bs)(aB:mY.canLay0=true∧mY.depth≤2)(bf:db.canLay0=true):za A s u v (PyData.eqv mY db):=have hb:=ax.yZ (bR (Nat.min_le_left _ _) (bR aB.2 (by decide)))
 ⟨rcAt_reads EH EI aB.1 bf hb,rcNeAt_reads EH EI aB.1 bf hb⟩
theorem N8(ax:d1 n A){l b:Addr}{xs aS:List V}{vs us:List Value}(aa:s.heap.PlainList l vs.toArray)(ab:s.heap.PlainList b us.toArray)(a8:b5 W xs vs)(b3:b5 W aS us){r:Bool}(h:(if xs.length=aS.length then pf xs aS else I false)=I r):
  za A s (.ref l) (.ref b) r:=by
 rcases pw h with⟨_,h⟩|⟨aA,h⟩
 ·obtain⟨a,c,ay,au,rfl⟩:=EF h;exact y' a c▸EG ax (reads_of_ints aa.isList (ints_of ay a8)) (reads_of_ints ab.isList (ints_of au b3)) (EE a) (EE c).1
 ·cases h;have lb:=bne_iff_ne.mpr fun e=>aA (a8.1.symm.trans (e.trans b3.1));have hb:=ax.yZ (fx _);exact⟨.lists_lengths aa.isList ab.isList lb hb,.lists_lengths aa.isList ab.isList lb hb⟩
theorem zb(ax:d1 n A)(R:Rel w ae G W fm st s){x y:X}{u v:Value}(ct:b8 W x u)(dP:b8 W y v){a b:V}{r:Bool}(aB:st.val x=I a)(bf:st.val y=I b)(h:uP a b=I r):za A s u v r:=by
 induction a using V.casesOn with
 |int i=>obtain⟨j,ab,rfl⟩:=omap h;obtain⟨t1,rfl⟩:=l8 aB rfl ct;obtain⟨e1,rfl⟩:=l8 bf ab dP;exact⟨.int_int _ _ _ _,.int_int _ _ _ _⟩
 |bool i=>obtain⟨j,ab,rfl⟩:=omap h;cases y8 ab;cases kB aB (fun ag e=>by cases e);cases kB bf (fun ag e=>by cases e);erw[pA ct,pA dP];exact⟨.bool_bool _ _,.bool_bool _ _⟩
 |lst xs=>obtain⟨aS,ab,aq⟩:=aU h;obtain rfl:=qP ab;obtain⟨vs,l,rfl,cL,a8⟩:=n9 R ct aB;obtain⟨us,bt,rfl,ck,b3⟩:=n9 R dP bf;exact N8 ax cL ck a8 b3 aq
 |tup xs=>obtain⟨aS,ab,aq⟩:=aU h;obtain rfl:=va ab;cases kB aB (fun ag e=>by cases e);cases kB bf (fun ag e=>by cases e);obtain⟨vs,l,dH,rfl,ay,a8⟩:=n7 R ct;obtain⟨us,bt,ft,rfl,au,b3⟩:=n7 R dP;obtain⟨a,c,aa,ab,rfl⟩:=EF aq;exact y' a c▸EG ax (EC ay (ints_of aa a8)) (EC au (ints_of ab b3)) (ED a) (ED c).1
 |_=>cases h
theorem N9(R:Rel w ae G W fm st s){y:X}{v:Value}{i:Int}(t:Tok){xs:List V}{ns:List Int}(dP:b8 W y v)(bf:st.val y=I (.lst xs))(aa:h4 xs=I ns){Q:Value→Shared→Prop}(aE:Q (.bool (ns.contains i)) s):
  wpAny (model a4 w) A (compareOp .In (.int i t) v) Q bL s:=by
 obtain⟨us,bt,rfl,ck,b3⟩:=n9 R dP bf;have aw:=ints_of aa b3;refine in_listAt (fun y=>match y with| .int j _=>decide (j=i)|_=>false) ck.isList ?_ ?_
 ·intro y aV;rw[List.mem_toArray]at aV;have:∃j u,y= .int j u:=by
   clear aE aa ck b3
   induction aw with
   |nil=>cases aV
   |cons j u r aG=>cases aV with
    |head=>exact⟨_,_,rfl⟩
    |tail _ aV=>exact aG aV
  obtain⟨j,pD,rfl⟩:=this;have:=EqAt.int_int (A:=A.in1) (s:=s) j pD i t
  rwa [show(j==i)=U (j=i)from rfl]at this
 ·have:us.toArray.any (fun y=>match y with| .int j _=>decide (j=i)|_=>false)=ns.contains i:=by
   erw[List.any_toArray];clear aE aa ck b3
   induction aw with
   |nil=>rfl
   |cons j u r aG=>erw[List.any_cons,aG,Z5];congr 1;exact decide_eq_decide.mpr eq_comm
  erw[this];exact aE
end
end
end Mine
end
section
open PySem PySem.W PySem.Calls PyProof.Rows PySem.SeqAt
namespace Mine
noncomputable section
section
variable{cx:bV}{A:Around}{G:Addr→Obj→Prop}{W:a3}{fm:bS}{st st':St}{s:Shared}
theorem N'{v:V}{u:Value}(r:dd W v u):(u==Value.none)=ks v:=by cases r<;>rfl
theorem Oa{x:X}{a:V}{u:Value}(ct:b8 W x u)(h:st.val x=I a):(u==Value.none)=ks a:=by
 induction x using X.casesOn with
 |v b=>cases h;exact N' ct
 |cell i=>
  obtain⟨q,_,rfl⟩:=ct;obtain⟨aS,_,rfl⟩:=omap h
  rfl
theorem Ob{x:X}{a:V}{u:Value}(ct:b8 W x u)(h:st.val x=I a)(aA:ks a=true):u= .none:=by
 cases a<;>cases aA;cases kB h (fun ag e=>by cases e);cases ct
 rfl
theorem Oc{z:V}{t:Nat}(h:uQ z=I t):∃c fs,z= .obj (I t) c fs:=by cases z<;>cases h;exact⟨_,_,rfl⟩
theorem EJ{x:X}{a:V}{u:Value}(ct:b8 W x u)(h:st.val x=I a){t:Nat}(a5:uQ a=I t):∃p,u= .ref p∧W.t[t]? =I p:=by obtain⟨c,fs,rfl⟩:=Oc a5;cases kB h (fun ag e=>by cases e);cases ct with|obj f fd nn a5 ex g1 g2=>exact⟨_,rfl,a5 _ rfl⟩
theorem EK{x y:X}{u v:Value}(ct:b8 W x u)(dP:b8 W y v){a b:V}{r:Bool}(aB:st.val x=I a)(bf:st.val y=I b)(h:yq a b=I r){Q:Value→Shared→Prop}:
  (Q (.bool r) s→wpAny (model a4 w) A (compareOp .Is u v) Q bL s)∧(Q (.bool (!r)) s→wpAny (model a4 w) A (compareOp .IsNot u v) Q bL s):=by
 rcases pw h with⟨aA,h⟩|⟨_,h⟩
 ·cases h;obtain rfl:=Ob dP bf aA;erw[←Oa ct aB];exact⟨is_none_gen,isnot_none_gen⟩
 ·obtain⟨t,aa,h⟩:=aU h;obtain⟨t',ab,h⟩:=aU h;obtain⟨e,b0⟩:=c0 (show(if t=t' then I true else J)=I r from h);cases e;cases b0;obtain⟨p,rfl,ay⟩:=EJ ct aB aa;obtain⟨q,rfl,au⟩:=EJ dP bf ab;cases ay.symm.trans au;exact⟨wpAny_is_ref_self,wpAny_isNot_ref_self⟩
theorem EL{i:Nat}{a:List V}(h:st.heap[i]? =I (.lst a)):st.val (.cell i)=I (.lst a):=congrArg (fun o=>(o.bind uT).map V.lst) h
theorem Od(ax:d1 n A)(R:Rel w ae G W fm st s){i j:Nat}{u v:Value}(ct:b8 W (.cell i) u)(dP:b8 W (.cell j) v){c d:Cell}(aa:st.heap[i]? =I c)(ab:st.heap[j]? =I d){r:Bool}(h:ys c d=I r){Q:Value→Shared→Prop}(aE:Q (.bool r) s):
  wpAny (model a4 w) A (compareOp .Eq u v) Q bL s:=by
 induction c using Cell.casesOn with
 |cw a=>
  obtain⟨b,hd,aq⟩:=aU (show(yr d).bind _=I r from h);cases d<;>cases (hd);obtain⟨vc,ba⟩:=c0 aq;cases ba;obtain⟨eu,cL,rfl⟩:=ct;obtain⟨gc,ck,rfl⟩:=dP;obtain⟨⟨ay,kA⟩,dH,fj,hR,v1⟩:=R.cells _ _ _ aa cL;obtain⟨⟨au,cT⟩,ft,vd,ma,v2⟩:=R.cells _ _ _ ab ck;cases km.mp vc;cases CN.mp ma;erw[ay,au];refine keq_eq (r:=true) kA cT fj vd (ax.yZ (fx _)) (fun ar=>?_) ?_
  ·cases o4 ar;exact .nil
  ·induction dH using bY with
   |nil=>induction a using bY with
    |nil=>exact aE
    |cons=>cases hR
   |cons=>induction a using bY with
    |nil=>cases hR
    |cons=>exact aE
 |lst a=>obtain⟨b,hd,aq⟩:=aU (show(uT d).bind _=I r from h);cases d<;>cases (hd);exact(zb ax R ct dP (EL aa) (EL ab) aq).1 a4 w _ _ aE
 |gone|e9|inst=>cases h
theorem ve{o:CmpOp}{br:bk}(aO:k6 o=I br){x y:X}{u v:Value}(ct:b8 W x u)(dP:b8 W y v){a b:V}(ay:st.val x=I a)(au:st.val y=I b){r:Bool}(h:((intOf a).bind fun a=>(intOf b).bind fun b=>DS br a b)=I r){Q:Value→Shared→Prop}(aE:Q (.bool r) s):
  wpAny (model a4 w) A (compareOp o u v) Q bL s:=by
 obtain⟨i,aa,ab⟩:=aU h;obtain⟨j,aq,ba⟩:=aU ab;obtain⟨t1,rfl⟩:=l8 ay aa ct;obtain⟨e1,rfl⟩:=l8 au aq dP;cases o<;>cases aO<;>cases ba
 ·exact lt_int aE
 ·exact le_int aE
 ·exact gt_int aE
 ·exact ge_int aE
theorem Oe(ax:d1 n A)(R:Rel w ae G W fm st s){o:CmpOp}{br:bk}(aO:k6 o=I br){x y:X}{u v:Value}(ct:b8 W x u)(dP:b8 W y v){r:Bool}(h:st.uW br x y=I r){Q:Value→Shared→Prop}(aE:Q (.bool r) s):
  wpAny (model a4 w) A (compareOp o u v) Q bL s:=by
 obtain⟨a,ay,h⟩:=aU h;obtain⟨b,au,h⟩:=aU h;cases o<;>cases aO
 ·exact(zb ax R ct dP ay au h).1 a4 w _ _ aE
 ·obtain⟨dz,h',rfl⟩:=omap h;exact(zb ax R ct dP ay au h').2 a4 w _ _ aE
 ·exact ve rfl ct dP ay au h aE
 ·exact ve rfl ct dP ay au h aE
 ·exact ve rfl ct dP ay au h aE
 ·exact ve rfl ct dP ay au h aE
 ·exact(EK ct dP ay au h).1 aE
 ·obtain⟨dz,h',rfl⟩:=omap h;exact(EK ct dP ay au h').2 aE
 ·obtain⟨xs,aa,ab⟩:=aU h;obtain rfl:=qP aa;obtain⟨i,aq,ba⟩:=aU ab;obtain⟨ns,b0,rfl⟩:=omap ba;obtain⟨t1,rfl⟩:=l8 ay aq ct;exact N9 R t1 dP au b0 aE
theorem Of{o:bk}{x y:X}{r:Bool}(h:st.cmp o x y=I r):st.uW o x y=I r∨o= .eq∧((yt x y).bind fun p=>(st.heap[p.1]?).bind fun c=>(st.heap[p.2]?).bind fun d=>ys c d)=I r:=by
 induction o using bk.casesOn with
 |eq=>
  unfold St.cmp at h;generalize yt x y=c at h⊢
  induction c using gJ with
  |none=>exact .inl h
  |some p=>exact .inr ⟨rfl,h⟩
 |_=>exact .inl h
theorem n'(ax:d1 n A)(R:Rel w ae G W fm st s){o:CmpOp}{br:bk}(aO:k6 o=I br){x y:X}{u v:Value}(ct:b8 W x u)(dP:b8 W y v){r:Bool}(h:st.cmp br x y=I r){Q:Value→Shared→Prop}(aE:Q (.bool r) s):
  wpAny (model a4 w) A (compareOp o u v) Q bL s:=by
 rcases Of h with aa|⟨e,aa⟩
 ·exact Oe ax R aO ct dP aa aE
 ·clear h;cases e;obtain⟨p,hp,h⟩:=aU aa;obtain⟨i,aC,aq⟩:=aU hp;obtain⟨j,aV,rfl⟩:=omap aq;obtain rfl:=mX aC;obtain rfl:=mX aV;obtain⟨c,aa,h⟩:=aU h;obtain⟨d,ab,h⟩:=aU h;cases o<;>cases aO;exact Od ax R ct dP aa ab h aE
theorem vf{cx:bV}{o:CmpOp}{b:Expr}{bN:ao}(h:aW cx b=I bN):behindInMarks o b=false:=by cases b<;>first|rfl|exact c1 h
theorem oa{e:Expr}{r:List Expr}{bg:az}(h:dv cx (e::r)=I bg):∃bx bN,aW cx e=I bx∧dv cx r=I bN∧bg= .cons bx bN:=by refine eA fun cF=>?_;obtain⟨bx,ca,h⟩:=aU (show(aW cx e).bind _=_ from h);obtain⟨bN,dy,e⟩:=omap h;refine cF ?_;exact⟨bx,bN,ca,dy,e.symm⟩
theorem Og{bg:az}(h:dv cx []=I bg):bg= .nil:=by cases h;rfl
theorem EM{e:Expr}{bg:az}(h:dv cx [e]=I bg):∃bx,aW cx e=I bx∧bg= .cons bx .nil:=by obtain⟨bx,bN,ca,dy,rfl⟩:=oa h;erw[Og dy];exact⟨bx,ca,rfl⟩
theorem Oh{e au:Expr}{bg:az}(h:dv cx [e,au]=I bg):∃bx bN,aW cx e=I bx∧aW cx au=I bN∧bg= .cons bx (.cons bN .nil):=by refine eA fun cF=>?_;obtain⟨bx,bN,ca,dy,rfl⟩:=oa h;obtain⟨pc,mb,rfl⟩:=EM dy;refine cF ?_;exact⟨bx,pc,ca,mb,rfl⟩
inductive EN(cx:bV)(a:Expr)(o:CmpOp)(b:Expr)(aH:ao):Prop where
 |mk (bx bN:ao) (br:bk) (ca:aW cx a=I bx) (dy:aW cx b=I bN) (aO:k6 o=I br) (e:aH= .cmp bx br bN):EN cx a o b aH
theorem EO{a b:Expr}{o:CmpOp}{p:Pos}{aH:ao}(ah:aW cx (.Compare a [o] [b] p)=I aH):EN cx a o b aH:=by refine eA fun cF=>?_;obtain⟨bx,ca,ah⟩:=aU (show(aW cx a).bind _=I aH from ah);obtain⟨Oi,zc,ah⟩:=aU ah;obtain⟨bN,dy,rfl⟩:=EM zc;obtain⟨br,aO,e⟩:=omap (show(k6 o).map _=I aH from ah);refine cF ?_;exact⟨bx,bN,br,ca,dy,aO,e.symm⟩
inductive EP(cx:bV)(a:Expr)(o:CmpOp)(b:Expr)(cK:CmpOp)(c:Expr)(aH:ao):Prop where
 |mk (bx bN pc:ao) (br qQ:bk) (ca:aW cx a=I bx) (dy:aW cx b=I bN) (mb:aW cx c=I pc) (aO:k6 o=I br) (kD:k6 cK=I qQ) (e:aH= .k1 bx br bN qQ pc):EP cx a o b cK c aH
theorem k1{a b c:Expr}{o cK:CmpOp}{p:Pos}{aH:ao}(ah:aW cx (.Compare a [o,cK] [b,c] p)=I aH):EP cx a o b cK c aH:=by refine eA fun cF=>?_;obtain⟨bx,ca,ah⟩:=aU (show(aW cx a).bind _=I aH from ah);obtain⟨Oi,zc,ah⟩:=aU ah;obtain⟨bN,pc,dy,mb,rfl⟩:=Oh zc;obtain⟨br,aO,ah⟩:=aU (show(k6 o).bind _=I aH from ah);obtain⟨qQ,kD,e⟩:=omap ah;refine cF ?_;exact⟨bx,bN,pc,br,qQ,ca,dy,mb,aO,kD,e.symm⟩
theorem Oj{a b:Expr}{o:CmpOp}{p:Pos}(aB:bj w ae C n cx a)(bf:bj w ae C n cx b):bj w ae C n cx (.Compare a [o] [b] p):=by intro aH ah A ax G W fm st s v st' hf R aN;obtain⟨bx,bN,br,ca,dy,aO,rfl⟩:=EO ah;obtain⟨x,s1,bT,aa⟩:=b2 (show aY (aj C bx st) _=I (v,st')from aN);obtain⟨y,s2,cU,ab⟩:=b2 aa;obtain⟨r,av,aq⟩:=omap ab;cases aq;exact wpAny_Compare1 (two aB bf ca dy ax hf R bT cU fun pD fK W' s' l de a0 ct dP=>n' ax de aO ct dP av ⟨W',l,de,.bool _,a0⟩) (vf dy)
theorem Ol{a b:Expr}{o:CmpOp}{p:Pos}(aB:bj w ae C n cx a)(bf:bj w ae C n cx b):ST w ae C n cx (.Compare a [o] [b] p):=by intro aH ah A ax G W fm st s v st' hf R aN;obtain⟨bx,bN,br,ca,dy,aO,rfl⟩:=EO ah;obtain⟨x,s1,bT,aa⟩:=b2 (show aY (aj C bx st) _=I (_,st')from aN);obtain⟨y,s2,cU,ab⟩:=b2 aa;obtain⟨r,av,aq⟩:=omap ab;cases aq;exact wpAny_isTrue_Compare1 (two aB bf ca dy ax hf R bT cU fun pD fK W' s' l de a0 ct dP=>n' ax de aO ct dP av (wpAny_truthy_bool ⟨rfl,W',l,de,a0⟩)) (vf dy)
inductive zd(C:Calls)(bx:ao)(o:bk)(bN:ao)(cK:bk)(pc:ao)(st:St)(x:X)(st':St):Prop where
 |no (c2:X) (s1:St) (bT:aj C bx st=I (c2,s1)) (y:X) (cU:aj C bN s1=I (y,st')) (h:st'.cmp o c2 y=I false) (e:x= .v (.bool false)):zd C bx o bN cK pc st x st'
 |yes (c2:X) (s1:St) (bT:aj C bx st=I (c2,s1)) (y:X) (s2:St) (cU:aj C bN s1=I (y,s2)) (h:s2.cmp o c2 y=I true) (z:X) (js:aj C pc s2=I (z,st')) (r:Bool) (ab:st'.cmp cK y z=I r) (e:x= .v (.bool r)):zd C bx o bN cK pc st x st'
theorem sH{α:Type}{a b c:α}(h:(if true=true then a else b)=c):a=c:=h
theorem ER{bx bN pc:ao}{o cK:bk}{x:X}(aN:aj C (.k1 bx o bN cK pc) st=I (x,st')):zd C bx o bN cK pc st x st':=by
 obtain⟨c2,s1,bT,aa⟩:=b2 (show aY (aj C bx st) _=I (x,st')from aN);obtain⟨y,s2,cU,ab⟩:=b2 aa;obtain⟨t,av,aq⟩:=aU ab
 induction t using hL with
 |false=>cases aq;exact .no c2 s1 bT y cU av rfl
 |true=>obtain⟨z,s3,js,ba⟩:=b2 (sH aq);obtain⟨r,sI,b0⟩:=omap ba;cases b0;exact .yes c2 s1 bT y s2 cU av z js r sI rfl
theorem Om{a b c:Expr}{o cK:CmpOp}{p:Pos}(aB:bj w ae C n cx a)(bf:bj w ae C n cx b)(iY:bj w ae C n cx c):bj w ae C n cx (.Compare a [o,cK] [b,c] p):=by
 intro aH ah A ax G W fm st s v st' hf R aN;obtain⟨bx,bN,pc,br,qQ,ca,dy,mb,aO,kD,rfl⟩:=k1 ah;refine Compare_chain ?_ (by simp only[lastMarks];exact vf mb);cases ER aN with
 |no c2 s1 bT y cU av e=>subst e;exact dm (aB ca ax hf R bT) fun u s₁ W1 aM aZ a8 a0=>chain_link (dm (bf dy ax hf aZ cU) fun v s₂ cN bt cy b3 gd=>n' ax cy aO (a8.mono bt) b3 av (wpAny_truthy_bool ⟨cN,aM.trans bt,cy,.bool _,gd.trans a0⟩))
 |yes c2 s1 bT y s2 cU av z js r sI e=>
  subst e;exact dm (aB ca ax hf R bT) fun u s₁ W1 aM aZ a8 a0=>chain_link (dm (bf dy ax hf aZ cU) fun v s₂ cN bt cy b3 gd=>n' ax cy aO (a8.mono bt) b3 av (wpAny_truthy_bool
   (chain_last (dm (iY mb ax hf cy js) fun fK gO h9 fa ek mZ pE=>n' ax ek kD (b3.mono fa) mZ sI ⟨h9,(aM.trans bt).trans fa,ek,.bool _,pE.trans (gd.trans a0)⟩))))
theorem Oo{a b c:Expr}{o cK:CmpOp}{p:Pos}(aB:bj w ae C n cx a)(bf:bj w ae C n cx b)(iY:bj w ae C n cx c):ST w ae C n cx (.Compare a [o,cK] [b,c] p):=by
 intro aH ah A ax G W fm st s v st' hf R aN;obtain⟨bx,bN,pc,br,qQ,ca,dy,mb,aO,kD,rfl⟩:=k1 ah;refine isTrue_chain ?_ (by simp only[lastMarks];exact vf mb);cases ER aN with
 |no c2 s1 bT y cU av e=>cases e;exact dm (aB ca ax hf R bT) fun u s₁ W1 aM aZ a8 a0=>test_link (dm (bf dy ax hf aZ cU) fun v s₂ cN bt cy b3 gd=>n' ax cy aO (a8.mono bt) b3 av (wpAny_truthy_bool ⟨rfl,cN,aM.trans bt,cy,gd.trans a0⟩))
 |yes c2 s1 bT y s2 cU av z js r sI e=>
  cases e;exact dm (aB ca ax hf R bT) fun u s₁ W1 aM aZ a8 a0=>test_link (dm (bf dy ax hf aZ cU) fun v s₂ cN bt cy b3 gd=>n' ax cy aO (a8.mono bt) b3 av (wpAny_truthy_bool
   (test_last (dm (iY mb ax hf cy js) fun fK gO h9 fa ek mZ pE=>n' ax ek kD (b3.mono fa) mZ sI (wpAny_truthy_bool ⟨rfl,h9,(aM.trans bt).trans fa,ek,pE.trans (gd.trans a0)⟩)))))
inductive ze(C:Calls)(op:rQ)(bx bN:ao)(st:St)(x:X)(st':St):Prop where
 |now (t:Bool) (bT:aj C bx st=I (.v (.bool t),st')) (a5:t=U (op= .Or)) (e:x= .v (.bool t)):ze C op bx bN st x st'
 |later (t:Bool) (s1:St) (bT:aj C bx st=I (.v (.bool t),s1)) (a5:t= !U (op= .Or)) (b:Bool) (cU:aj C bN s1=I (.v (.bool b),st')) (e:x= .v (.bool b)):ze C op bx bN st x st'
theorem Oq{o:Option (X×St)}{x:X}(h:uY o=I (x,st')):∃b,o=I (.v (.bool b),st')∧x= .v (.bool b):=by obtain⟨y,s1,rfl,h⟩:=b2 h;obtain⟨b,bf,h⟩:=omap h;obtain rfl:=mW bf;cases h;exact⟨b,rfl,rfl⟩
theorem ES{op:rQ}{bx bN:ao}{x:X}(aN:aj C (match op,bN with| .And,r=>.and bx r| .Or,r=>.or bx r) st=I (x,st')):ze C op bx bN st x st':=by
 have key:∃c2 s1,aj C bx st=I (c2,s1)∧∃t,k3 c2=I t∧(if t=U (op= .Or)then I (.v (.bool t),s1)else uY (aj C bN s1))=I (x,st'):=by
  induction op using BoolOp.casesOn with
  |And=>obtain⟨c2,s1,bT,aa⟩:=b2 (show aY (aj C bx st) _=I (x,st')from aN);obtain⟨t,a5,ab⟩:=aU aa;exact⟨c2,s1,bT,t,a5,by cases t<;>exact ab⟩
  |Or=>obtain⟨c2,s1,bT,aa⟩:=b2 (show aY (aj C bx st) _=I (x,st')from aN);obtain⟨t,a5,ab⟩:=aU aa;exact⟨c2,s1,bT,t,a5,by cases t<;>exact ab⟩
 obtain⟨c2,s1,bT,t,a5,h⟩:=key;obtain rfl:=mW a5;refine bZ (fun e:t=U (op= .Or)=>?_) (fun e=>?_)
 ·rw[if_pos e]at h
  injections h
  exact .now t bT e rfl
 ·rw[if_neg e]at h;obtain⟨b,cU,au⟩:=Oq h;exact .later t s1 bT (by revert e;injections t<;>cases U (op= .Or)<;>simp) b cU au
theorem Ot{op:rQ}{p:Pos}:∀{es:List Expr},(∀e,e∈es→bj w ae C n cx e)→∀{aH},cBool cx op es=I aH→∀{A},d1 n A→∀{G W fm st s x st'},dw cx fm→Rel w ae G W fm st s→aj C aH st=I (x,st')→wpAny (model a4 w) A (eval (.BoolOp op es p) fm.env) (d9 w ae G W fm s st' x) bL s:=by
 intro es
 induction es with
 |nil=>intro _ _ ah;exact c1 ah
 |cons e r aD=>
  intro h aH ah A ax G W fm st s x st' hf R aN
  induction r using bY with
  |nil=>exact BoolOp_one (h e (.head _) ah ax hf R aN)
  |cons au r=>
   obtain⟨bx,ca,ah⟩:=aU (show(aW cx e).bind _=I aH from ah);obtain⟨bN,dy,rfl⟩:=omap ah;have aG:∀{W st s},Rel w ae G W fm st s→aj C bN st=I (x,st')→_:=fun R=> @aD (fun e he=>h e (.tail _ he)) bN dy A ax G _ fm _ _ x st' hf R;have one:=fun{b s1}=>h e (.head _) ca ax hf R (x:=.v (.bool b)) (st':=s1);cases ES aN with
   |now t bT a5 e=>subst e;cases op<;>(cases a5;first|refine BoolOp_and (dm (one bT) fun u s₁ W1 aM aZ a8 a0=>?_)|refine BoolOp_or (dm (one bT) fun u s₁ W1 aM aZ a8 a0=>?_))<;>(erw[pA a8];exact wpAny_truthy_bool ⟨W1,aM,aZ,.bool _,a0⟩)
   |later t s1 bT a5 b cU e=>subst e;cases op<;>(cases a5;first|refine BoolOp_and (dm (one bT) fun u s₁ W1 aM aZ a8 a0=>?_)|refine BoolOp_or (dm (one bT) fun u s₁ W1 aM aZ a8 a0=>?_))<;>(erw[pA a8];exact wpAny_truthy_bool (sel (aG aZ cU) aM a0))
theorem Ou{op:rQ}{es:List Expr}{p:Pos}(h:∀e,e∈es→bj w ae C n cx e):bj w ae C n cx (.BoolOp op es p):=fun ah ag ax ag ag ag ag ag ag ag hf R aN=>Ot h (show cBool cx op es=_ from ah) ax hf R aN
theorem hy.step{W':a3}{s1 s':Shared}(h:W.le W')(o:s1.os=s.os)(p:hy w ae G W' fm s1 st' s'):hy w ae G W fm s st' s':=by obtain⟨cN,a,b,d⟩:=p;exact⟨cN,h.trans a,b,d.trans o⟩
theorem ET{op:rQ}:∀{es:List Expr},(∀e,e∈es→ST w ae C n cx e)→∀{aH},cBool cx op es=I aH→∀{A},d1 n A→∀{G W fm st s b st'},dw cx fm→Rel w ae G W fm st s→aj C aH st=I (.v (.bool b),st')→wpAny (model a4 w) A (allTrue op es fm.env) (fun b' s'=>b'=b∧hy w ae G W fm s st' s') bL s:=by
 intro es
 induction es with
 |nil=>intro _ _ ah;exact c1 ah
 |cons e r aD=>
  intro h aH ah A ax G W fm st s b st' hf R aN
  induction r using bY with
  |nil=>
   have:=h e (.head _) ah ax hf R aN
   induction op using BoolOp.casesOn with
   |And=>
    refine wpAny_allTrue_And_cons (wpAny_mono this (fun b' s' q=>?_) fun ag ag x=>x)
    induction b' using hL with
    |true=>exact wpAny_allTrue_And_nil q
    |false=>exact q
   |Or=>
    refine wpAny_allTrue_Or_cons (wpAny_mono this (fun b' s' q=>?_) fun ag ag x=>x)
    induction b' using hL with
    |true=>exact q
    |false=>exact wpAny_allTrue_Or_nil q
  |cons au r=>
   obtain⟨bx,ca,ah⟩:=aU (show(aW cx e).bind _=I aH from ah);obtain⟨bN,dy,rfl⟩:=omap ah;have aG:∀{W st s},Rel w ae G W fm st s→aj C bN st=I (.v (.bool b),st')→_:=fun R=> @aD (fun e he=>h e (.tail _ he)) bN dy A ax G _ fm _ _ b st' hf R;have one:=fun{b s1}=>h e (.head _) ca ax hf R (b:=b) (st':=s1);cases ES aN with
   |now t bT a5 e=>
    cases e;cases op<;>cases a5
    ·exact wpAny_allTrue_And_cons (l6 (one bT) fun s₁ W1 aM aZ a0=>⟨rfl,W1,aM,aZ,a0⟩)
    ·exact wpAny_allTrue_Or_cons (l6 (one bT) fun s₁ W1 aM aZ a0=>⟨rfl,W1,aM,aZ,a0⟩)
   |later t s1 bT a5 b' cU e=>
    cases e;cases op<;>cases a5
    ·exact wpAny_allTrue_And_cons (l6 (one bT) fun s₁ W1 aM aZ a0=>wpAny_mono (aG aZ cU) (fun ag ag q=>⟨q.1,q.2.step aM a0⟩) fun ag ag x=>x)
    ·exact wpAny_allTrue_Or_cons (l6 (one bT) fun s₁ W1 aM aZ a0=>wpAny_mono (aG aZ cU) (fun ag ag q=>⟨q.1,q.2.step aM a0⟩) fun ag ag x=>x)
theorem aaH{op:rQ}{es:List Expr}{p:Pos}(h:∀e,e∈es→ST w ae C n cx e):ST w ae C n cx (.BoolOp op es p):=fun ah ag ax ag ag ag ag ag ag ag hf R aN=>wpAny_isTrue_BoolOp (ET h (show cBool cx op es=_ from ah) ax hf R aN)
end
end
end Mine
end
section
open PySem PySem.W PySem.Calls PyProof.Rows PySem.SeqAt
namespace Mine
noncomputable section
section
variable{cx:bV}{A:Around}{G:Addr→Obj→Prop}{W:a3}{fm:bS}{st st':St}{s:Shared}
noncomputable def Ov(P:Params)(c k:Nat):Option V→Bool
 |none=>(findIn (H.c7 P) (.ref (dE c)) (nm k)).any LH
 |some v=>(match v with
  | .int j=>y5 (findIn (H.c7 P) (.ref (dE c)) (nm k)) j
  |_=>false)
def EU(P:Params)(c k:Nat):Bool:=(mN c k).isSome||Ov P c k (qG c k)
def EV(P:Params)(c:Nat):Bool:=plainGet (H.c7 P) (dE c) ""&&hasDictIn (H.c7 P) (dE c)&&plainOver (H.c7 P) (dE c)&&(findIn (H.c7 P) (.ref (dE c)) "__setattr__"==I (I (.builtin "object.__setattr__")))
theorem Ow(P:Params):(iQ 11).all (EV P)=true:=by kernel_rfl
theorem Ox(P:Params):((iQ 11).all fun c=>(iQ 61).all fun k=>EU P c k)=true:=by kernel_rfl
theorem Oy(P:Params):specialIn (H.c7 P) (.int 0 0) "__get__"=I J:=by kernel_rfl
theorem Oz:((iQ 61).all fun k=> !copiedNames.contains (nm k))=true:=by kernel_rfl
theorem OA:((iQ 61).all fun k=>nm k !=Str.ofString ""&&(iQ 61).all fun j=>nm k !=nm j||k==j)=true:=by kernel_rfl
theorem qR{k j:Nat}(ai:k<61)(h:nm k=nm j):k=j:=by
 have:=h2.mp OA k (kX.mpr ai);refine bC (fun aa ab=>?_) (cC.mp this);refine bZ (fun a':j<61=>?_) (fun a'=>?_)
 ·have:=h2.mp ab j (kX.mpr a');replace this:=h▸this
  simpa using this
 ·have e:nm j=Str.ofString "":=by
   unfold nm;erw[je,jd (by show nY.length≤j;have:nY.length=61:=rfl;exact uE ‹_›)]
   rfl
  replace aa:=e▸(h▸aa);simp at aa
theorem vg{o:Obj}{m:Str→Option Value}(h:NsObj o m)(k:Str):lookIn k o=I (m k):=by
 refine eA fun cF=>?_;obtain⟨es,ep,d,ai,hf⟩:=h;refine cF ?_;delta lookIn;erw[d]
 dsimp only
 erw[←hf k];delta nsFind findBy;erw[←Array.find?_toList];cases hh:es.toList.find? (fun e=>e.key.isStr k)with
 |some e=>rfl
 |none=>
  have:es.toList.any (·.refKey)=false:=by erw[List.any_eq_false];intro e he;obtain⟨x,t,ex⟩:=ai e (Array.mem_toList_iff.mp he);delta DictEntry.refKey;erw[ex];simp
  erw[this];rfl
theorem OB{x:X}{v:Value}(r:b8 W x v):handedIn v=true:=by
 induction x using X.casesOn with
 |v a=>cases r<;>rfl
 |cell i=>obtain⟨q,_,rfl⟩:=r;rfl
theorem qS{c k:Nat}(h:iT c k=true):c<11∧k<61∧mN c k=J:=by unfold iT at h;refine bC (fun h aq=>?_) (cC.mp h);refine bC (fun aa ab=>?_) (cC.mp h);exact⟨of_decide_eq_true aa,of_decide_eq_true ab,ur.mp aq⟩
theorem vh(P:Params){c:Nat}(h:c<11):plainGet (H.c7 P) (dE c) ""=true∧hasDictIn (H.c7 P) (dE c)=true∧plainOver (H.c7 P) (dE c)=true∧findIn (H.c7 P) (.ref (dE c)) "__setattr__"=I (I (.builtin "object.__setattr__")):=by have:=h2.mp (Ow P) c (kX.mpr h);unfold EV at this;refine bC (fun this ba=>?_) (cC.mp this);refine bC (fun this aq=>?_) (cC.mp this);refine bC (fun aa ab=>?_) (cC.mp this);exact⟨aa,ab,aq,beq_iff_eq.mp ba⟩
theorem EW{o:Option (Option Value)}(h:o.any LH=true):o=I J:=by
 rcases o with _|_|v<;>first|rfl|cases h
theorem zf(P:Params){c k:Nat}(h:iT c k=true):(findIn (H.c7 P) (.ref (dE c)) (nm k)=I J∧qG c k=J)∨∃i t,findIn (H.c7 P) (.ref (dE c)) (nm k)=I (I (.int i t))∧qG c k=I (.int i):=by
 refine eA fun cF=>?_;obtain⟨aa,ab,aq⟩:=qS h;refine cF ?_;have e:=h2.mp (h2.mp (Ox P) c (kX.mpr aa)) k (kX.mpr ab);unfold EU at e;rw[aq]at e;clear aq h;generalize qG c k=o at e⊢
 induction o using gJ with
 |none=>exact .inl ⟨EW e,rfl⟩
 |some v=>induction v using V.casesOn with
  |int j=>refine f7 (Er e) fun t e=>?_;exact .inr ⟨j,t,e,rfl⟩
  |_=>cases e
theorem EX(P:Params)(i:Int)(t:Tok):specialIn (H.c7 P) (.int i t) "__get__"=I J:=Oy P
theorem OC{k:Nat}(h:k<61):copiedNames.contains (nm k)=false:=by
 have:=h2.mp Oz k (kX.mpr h)
 simpa using this
theorem Rel.K(R:Rel w ae G W fm st s)(aQ:cH w ae cb cm):(H.c7 w.params).In s.heap:=aQ.K.keeps fun b o e=>R.cD _ _ (R.base b o e)
theorem EY{E:Value→Shared→Prop}(K:(H.c7 w.params).In s.heap){x:Addr}{ox od:Obj}{m:Str→Option Value}{c k:Nat}{v:Value}{expr:Bool}{Q:Value→Shared→Prop}(cc:InstAt s.heap x ox (dE c) (I od))(aA:NsObj od m)(aB:iT c k=true)
  (aJ:m (nm k)=I v∨m (nm k)=J∧∃i t,v= .int i t∧findIn (H.c7 w.params) (.ref (dE c)) (nm k)=I (I v)) (hh:handedIn v=true) (h:Q v {s with toks:=s.toks+1}):wpAny (model a4 w) A (getAttr (.ref x) (nm k) expr) Q E s:=by
 obtain⟨aa,ab,aq⟩:=qS aB;obtain⟨g,d,_,_⟩:=vh w.params aa;refine get_value K cc (plainGet_of g).1 ?_ hh h
 rcases aJ with aJ|⟨aJ,i,t,rfl,hf⟩
 ·rcases zf w.params aB with⟨e,_⟩|⟨i,t,e,_⟩
  ·exact findObj_own d e rfl (by erw[vg aA,aJ])
  ·refine findObj_own d e ?_ (by erw[vg aA,aJ]);unfold noGet;erw[Option.all_some,EX w.params i t]
   rfl
 ·exact findObj_cls d hf (EX w.params i t) hh (OC ab) (by erw[vg aA,aJ])
theorem EZ(K:(H.c7 w.params).In s.heap)(R:Rel w ae G W fm st s){x:Addr}{ox od:Obj}{m:Str→Option Value}{c k:Nat}{expr:Bool}(L:Nat→Option X)(cc:InstAt s.heap x ox (dE c) (I od))(aA:NsObj od m)
  (ex:∀s v,m s=I v→∃n,s=nm n∧L n≠J) (g:∀n y,L n=I y→∃v,m (nm n)=I v∧b8 W y v) {r:X} (h:se c k (L k)=I r):wpAny (model a4 w) A (getAttr (.ref x) (nm k) expr) (d9 w ae G W fm s st r) bL s:=by
 refine bC (fun aB h=>?_) (c0 h);cases ar:L k with
 |some y=>replace h:=ar▸h;cases h;obtain⟨v,e,r⟩:=g k _ ar;exact EY K cc aA aB (.inl e) (OB r) (.self R.toks r rfl)
 |none=>
  replace h:=ar▸h;obtain⟨v,aJ,rfl⟩:=omap (show(qG c k).map X.v=I r from h);have hm:m (nm k)=J:=by
   cases aE:m (nm k)with
   |none=>rfl
   |some v=>obtain⟨j,e,a'⟩:=ex _ _ aE;replace a':=(qR (qS aB).2.1 e).symm▸a';exact absurd ar a'
  rcases zf w.params aB with⟨_,e⟩|⟨i,t,e,au⟩
  ·replace aJ:=e▸aJ;cases aJ
  ·replace aJ:=au▸aJ;cases aJ;exact EY K cc aA aB (.inr ⟨hm,i,t,rfl,e⟩) rfl (.self R.toks (.int i t) rfl)
inductive E0(W:a3)(t:Option Nat)(c:Nat)(fs:List (Nat×V))(v:Value):Prop where
 |mk (x dx:Addr) (od:Obj) (m:Str→Option Value) (e:v= .ref x) (f:W.F x (instObj (dE c) dx)) (fd:W.F dx od) (n:NsObj od m) (a5:∀i,t=I i→W.t[i]? =I x) (ex:∀s v,m s=I v→∃n y,s=nm n∧er n fs=I y) (g:∀n y,er n fs=I y→∃v,m (nm n)=I v∧dd W y v):E0 W t c fs v
theorem E1{t:Option Nat}{c:Nat}{fs:List (Nat×V)}{v:Value}(h:dd W (.obj t c fs) v):E0 W t c fs v:=by
 cases h with
 |obj f fd n a5 ex g1 g2=>exact⟨_,_,_,_,rfl,f,fd,n,a5,ex,fun n y e=>⟨_,g1 n y e,g2 n y e⟩⟩
theorem E2{v:V}{p:Nat×List (Nat×V)}(h:objOf v=I p):∃t,v= .obj t p.1 p.2:=by
 induction v using V.casesOn<;>cases h
 exact⟨_,rfl⟩
inductive E3(st:St)(i:Nat)(p:Nat×List (Nat×X)):Prop where
 |mk (c:Nat) (fs:List (Nat×X)) (e:p=(c,fs)) (h:st.heap[i]? =I (.inst c fs)):E3 st i p
theorem zg{i:Nat}{p:Nat×List (Nat×X)}(h:(st.heap[i]?).bind ph=I p):E3 st i p:=by
 obtain⟨c,ah,h⟩:=aU h
 induction c using Cell.casesOn<;>cases h
 exact⟨_,_,rfl,ah⟩
theorem OD(aQ:cH w ae cb cm)(R:Rel w ae G W fm st s){x:X}{u:Value}(ct:b8 W x u){k:Nat}{r:X}(h:st.attr x k=I r){expr:Bool}:wpAny (model a4 w) A (getAttr u (nm k) expr) (d9 w ae G W fm s st r) bL s:=by
 induction x using X.casesOn with
 |v v=>
  obtain⟨p,aa,ab⟩:=aU (show(objOf v).bind _=I r from h);obtain⟨t,rfl⟩:=E2 aa;obtain⟨x,dx,od,m,rfl,f,fd,nn,_,ex,g⟩:=E1 ct;refine EZ (R.K aQ) R (fun n=>(er n p.2).map X.v) ⟨R.cD _ _ f,rfl,rfl,R.cD _ _ fd⟩ nn (fun s v e=>?_) (fun n y e=>?_) ab
  ·obtain⟨n,y,ay,au⟩:=ex s v e;exact⟨n,ay,by erw[au];nofun⟩
  ·obtain⟨zh,ay,rfl⟩:=omap e;exact g n zh ay
 |cell i=>obtain⟨p,aa,ab⟩:=aU (show((st.heap[i]?).bind ph).bind _=I r from h);obtain⟨c,fs,rfl,ah⟩:=zg aa;obtain⟨q,aE,rfl⟩:=ct;obtain⟨f,m,hm,ex,g⟩:=R.cells _ _ _ ah aE;obtain⟨od,aO,nn⟩:=Ns.obj hm.ns;refine EZ (R.K aQ) R (fun n=>er n fs) ⟨R.cD _ _ f,rfl,rfl,aO⟩ nn (fun s v e=>?_) (fun n y e=>(g n y e).2) ab;obtain⟨n,y,ay,au⟩:=ex s v e;exact⟨n,ay,by erw[au];nofun⟩
theorem OE(aQ:cH w ae cb cm){e:Expr}{x:Str}{p:Pos}(he:bj w ae C n cx e)(aC:∀env,eval (.Attribute e x p) env=(do
   let o←eval e env
   standAt p.atName
   let r←holding [o] (getAttr o x true)
   letTemporaryGo e o r
   pure r)):bj w ae C n cx (.Attribute e x p):=by
 intro aH ah A ax G W fm st s v st' hf R aN;obtain⟨k,ai,ah⟩:=aU (show(jW x).bind _=I aH from ah);obtain⟨aH,ce,rfl⟩:=omap ah;rw[sF ai]at aC⊢;obtain⟨o,s1,iZ,aa⟩:=b2 (show aY (aj C aH st) _=I (v,st')from aN);obtain⟨r,av,ab⟩:=omap aa;cases ab;exact Attribute_any_ (dm (he ce ax hf R iZ) fun u s₁ W1 aM aZ a8 a0=>sel (OD aQ aZ a8 av) aM a0) (aC _)
end
end
end Mine
end
section
open PySem PySem.W PySem.Calls PyProof.Rows PySem.SeqAt
namespace Mine
noncomputable section
section
variable{cx:bV}{A:Around}{G:Addr→Obj→Prop}{W:a3}{fm:bS}{st st':St}{s:Shared}
theorem OF(P:Params){c k:Nat}(h:iT c k=true):takerIn (H.c7 P) (dE c) (nm k)=I J:=by
 unfold takerIn
 rcases zf P h with⟨e,_⟩|⟨i,t,e,_⟩
 ·erw[e];rfl
 ·erw[e];have:takesIn (H.c7 P) (.int i t)=I false:=by kernel_rfl
  erw[this];rfl
theorem OG{R:Except Value Flow→Shared→Prop}(K:(H.c7 w.params).In s.heap){x dx:Addr}{m:Str→Option Value}{c k:Nat}{v:Value}{tk:Tok}(aC:s.heap.get? x=I (instObj (dE c) dx))(aA:s.heap.Ns1 dx m)(aB:iT c k=true)
  (hw:∃ns,Within m ns∧ns.length≤1000)
  (h:∀h',h'.Ns1 dx (fun y=>if y=nm k then I v else m y)→Heap.SameBut dx s.heap h'→R (.ok (.ret .none)) {s with heap:=h',toks:=s.toks+1}):
  codeAny (model a4 w) A (.call (.builtin "object.__setattr__") ⟨[.ref x,.str (nm k) tk,v],[]⟩) R s:=by
 obtain⟨aa,ab,aq⟩:=qS aB;obtain⟨g,hd,hp,aL⟩:=vh w.params aa;obtain⟨od,aO,_⟩:=Ns.obj aA.ns;have cc:InstAt s.heap x (instObj (dE c) dx) (dE c) (I od):=⟨aC,rfl,rfl,aO⟩
 refine osa_open K cc hp (OF w.params aB) fun b=>?_;obtain⟨cd,ah,lg⟩:=any_some hd;refine wpAny_bind (wpAny_pure (wpAny_bind (wpAny_bind (wpAny_loadPart aC (wpAny_bind ((looks_clsIn K ah).here ?_))))));erw[lg];refine wpAny_pure (a:=I dx) (wpAny_bind (wpAny_pure (wpAny_bind ?_)));refine wpAny_nsSet1 aA fun h' hz fL=>?_;obtain⟨ns,hw,ar⟩:=hw;obtain⟨o,es,ep,e,d,z⟩:=hz.count (hw.cons (nm k) v);refine wpAny_bind (wpAny_lookBehind e (by erw[d];exact pastItsLine_dict (by erw[sizeLine_eq];simp at z;lia)) ?_);exact wpAny_pure (h h' hz fL)
theorem OH{Q:Unit→Shared→Prop}{E:Value→Shared→Prop}(K:(H.c7 w.params).In s.heap){x dx:Addr}{m:Str→Option Value}{c k:Nat}{v:Value}(aC:s.heap.get? x=I (instObj (dE c) dx))(aA:s.heap.Ns1 dx m)(aB:iT c k=true)
  (hw:∃ns,Within m ns∧ns.length≤1000)
  (h:∀h',h'.Ns1 dx (fun y=>if y=nm k then I v else m y)→Heap.SameBut dx s.heap h'→Q () {s with heap:=h',toks:=s.toks+2}):
  wpAny (model a4 w) A (setAttr (.ref x) (nm k) v) Q E s:=by
 obtain⟨aa,ab,aq⟩:=qS aB;obtain⟨g,hd,hp,aL⟩:=vh w.params aa;obtain⟨od,aO,_⟩:=Ns.obj aA.ns;have cc:InstAt s.heap x (instObj (dE c) dx) (dE c) (I od):=⟨aC,rfl,rfl,aO⟩
 exact set_plain K cc aL (OG (s:={s with toks:=s.toks+1}) K aC aA aB hw fun h' hz fL=>h h' hz fL)
theorem OI{P:Nat→X→Prop}{m:Str→Option Value}(ex:∀s v,m s=I v→∃n y,s=nm n∧P n y):∃ns,Within m ns∧ns.length≤1000:=by
 refine⟨Str.ofString ""::nY.map Str.ofString,fun y aV=>?_,by have:nY.length=61:=rfl;simp[this]⟩;cases hm:m y with
 |none=>exact absurd hm aV
 |some v=>
  obtain⟨k,_,rfl,_⟩:=ex y v hm;unfold nm;refine bZ (fun ai:k<nY.length=>?_) (fun ai=>?_)
  ·refine .tail _ (f9.mpr ⟨nY[k],uu ai,?_⟩);erw[je,gp ai];rfl
  ·erw[je,jd (uE ‹_›)];exact .head _
theorem zi{α:Type}{k j:Nat}{x:α}:∀{l:List (Nat×α)},er j (fS k x l)=if k=j then I x else er j l:=by
 intro aT
 induction aT with
 |nil=>simp only[DP,Nx,qF]
 |cons dA r aD=>
  obtain⟨i,y⟩:=dA;simp only[DQ];refine bZ (fun aw:i=k=>?_) (fun aw=>?_)
  ·subst aw;simp only[if_pos rfl,qF];refine bZ (fun a':i=j=>?_) (fun a'=>?_)<;>simp[a',qF]
  ·simp only[if_neg aw,qF,aD];refine bZ (fun a':i=j=>?_) (fun a'=>?_)
   ·subst a';simp[Ne.symm aw]
   ·simp[a']
theorem OJ{fs:List (Nat×X)}{bd:Nat}{m:Str→Option Value}{h h':Heap}{c k:Nat}{q:Addr×Addr}{x:X}{v:Value}(ai:k<61)(hf:W.F q.1 (instObj (dE c) q.2))(ex:∀s v,m s=I v→∃n y,s=nm n∧er n fs=I y)
  (g:∀n y,er n fs=I y→iW bd y∧∃v,m (nm n)=I v∧b8 W y v) (N:h'.Ns1 q.2 (fun y=>if y=nm k then I v else m y)) (aC:iW bd x) (r:b8 W x v):e' w W h' bd q (.inst c (fS k x fs)):=by
 refine⟨hf,_,N,fun s u hb=>?_,fun j y aV=>?_⟩
 ·split at hb
  ·rename_i e;exact⟨k,x,e,by erw[zi,if_pos rfl]⟩
  ·obtain⟨j,y,e,a'⟩:=ex s u hb;refine⟨j,y,e,?_⟩;rw[zi,if_neg ?_]
   ·exact a'
   ·rintro rfl;rename_i i0;exact i0 e
 ·rw[zi]at aV
  split at aV
  ·rename_i e;cases aV;subst e;exact⟨aC,v,by simp,r⟩
  ·rename_i i0;obtain⟨a,u,e,eV⟩:=g j y aV;refine⟨a,u,?_,eV⟩;erw[if_neg fun e4=>i0 (qR ai e4.symm)];exact e
theorem below(R:Rel w ae G W fm st s){x:X}{v:Value}(r:b8 W x v):iW st.heap.length x:=by
 induction x using X.casesOn with
 |v a=>trivial
 |cell i=>obtain⟨q,aE,_⟩:=r;have:=(d7.mp aE).1;rw[R.len]at this;exact this
theorem OK(aQ:cH w ae cb cm)(R:Rel w ae G W fm st s){o x:X}{u v:Value}(so:b8 W o u)(ct:b8 W x v){k:Nat}(h:st.setAttr o k x=I st'):wpAny (model a4 w) A (setAttr u (nm k) v) (fun ag=>hy w ae G W fm s st') bL s:=by
 obtain⟨i,aw,aa⟩:=aU (show(jV o).bind _=I st' from h);obtain rfl:=mX aw;obtain⟨p,hp,ab⟩:=aU aa;obtain⟨c,fs,rfl,ah⟩:=zg hp;obtain⟨aB,aq⟩:=c0 ab;clear h aa ab;cases aq;obtain⟨aB,aJ⟩:=cC.mp aB;obtain⟨q,aE,rfl⟩:=so;obtain⟨f,m,hm,ex,g⟩:=R.cells _ _ _ ah aE;refine OH (R.K aQ) (R.cD _ _ f) hm aB (OI ex) fun h' hz fL=>⟨W,.rfl,R.setC ah rfl aE fL (OJ (h:=s.heap) (qS aB).2.1 f ex g hz ?_ ct),rfl⟩
 induction x using X.casesOn with
 |v a=>trivial
 |cell j=>have bf:st.base≤i:=of_decide_eq_true (show U (st.base≤i)=true from aJ);erw[yN bf];exact below R ct
end
end
end Mine
end
section
open PySem PySem.W PySem.Calls PyProof.Rows PySem.SeqAt
namespace Mine
noncomputable section
inductive ew{ia K α:Type}(f:ia→K)(P:α→Value→Prop):List (ia×α)→List (K×Value)→Prop where
 |nil:ew f P [] []
 |cons {k:ia} {a:α} {v:Value} {r dz}:P a v→ew f P r dz→ew f P ((k,a)::r) ((f k,v)::dz)
theorem ew.keys{ia K α:Type}{f:ia→K}{P:α→Value→Prop}{l di}(h:ew f P l di):di.map (·.1)=l.map (fun x=>f x.1):=by
 induction h with
 |nil=>rfl
 |cons _ _ aG=>simp[aG]
theorem ew.length{ia K α:Type}{f:ia→K}{P:α→Value→Prop}{l di}(h:ew f P l di):di.length=l.length:=by have:=congrArg xN h.keys;simpa using this
theorem ew.zj{ia K:Type}{f:ia→K}{W:a3}{l:List (ia×V)}:∀{di:List (K×Value)},di.map (·.1)=l.map (fun x=>f x.1)→b5 W (l.map (·.2)) (di.map (·.2))→ew f (dd W) l di:=by
 induction l with
 |nil=>intro di h _;cases CN.mp h;exact .nil
 |cons x r aG=>
  intro di h g
  rcases di with _|⟨y,dz⟩
  ·cases h
  ·refine bC (fun e b0=>?_) (List.cons.inj h);obtain⟨u,q,vi,g1,g2⟩:=b5.sm g;refine bC (fun ay au=>?_) (List.cons.inj vi);obtain⟨jt,v⟩:=y;cases e;cases ay;cases au;exact .cons g1 (aG b0 g2)
theorem ew.OL{ia K:Type}{f:ia→K}{W:a3}{l di}(h:ew f (dd W) l di):b5 W (l.map (·.2)) (di.map (·.2)):=by
 induction h with
 |nil=>exact .nil
 |cons a _ aG=>exact .cons a aG
theorem ew.E4{ia K:Type}{f:ia→K}{W:a3}{l:List (ia×X)}:∀{di:List (K×Value)},di.map (·.1)=l.map (fun x=>f x.1)→cM W (l.map (·.2)) (di.map (·.2))→ew f (b8 W) l di:=by
 induction l with
 |nil=>intro di h _;cases CN.mp h;exact .nil
 |cons x r aG=>
  intro di h g
  rcases di with _|⟨y,dz⟩
  ·cases h
  ·refine bC (fun e b0=>?_) (List.cons.inj h);obtain⟨jt,v⟩:=y;cases e;exact .cons g.1 (aG b0 g.2)
theorem ew.OM{ia K:Type}{f:ia→K}{W:a3}{l di}(h:ew f (b8 W) l di):cM W (l.map (·.2)) (di.map (·.2)):=by
 induction h with
 |nil=>trivial
 |cons a _ aG=>exact⟨a,aG⟩
theorem E5{K:Type}[DecidableEq K]{k j:K}{v:Value}{r:List (K×Value)}:valueAt ((k,v)::r) j=if k=j then I v else valueAt r j:=by unfold valueAt;erw[List.find?_cons];refine bZ (fun h:k=j=>?_) (fun h=>?_)<;>simp[h]
theorem E6{K:Type}[DecidableEq K]{k:K}{v u:Value}{r:List (K×Value)}(aA:k ∉ r.map (·.1)):stored ((k,v)::r) k u=(k,u)::r:=by
 unfold stored;erw[if_pos (by simp)];simp only[g0,if_true]
 congr 1
 conv=>rhs;erw[←List.map_id r]
 refine nO fun x aC=>?_;erw[if_neg]
 ·rfl
 ·rintro rfl;exact aA (f9.mpr ⟨x,aC,rfl⟩)
theorem E7{K:Type}[DecidableEq K]{k j:K}{v u:Value}{r:List (K×Value)}(aA:j≠k):stored ((j,v)::r) k u=(j,v)::stored r k u:=by
 unfold stored;erw[List.any_cons,decide_eq_false aA,LI,g0,if_neg aA];refine bZ (fun h:(r.any fun x=>decide (x.1=k))=true=>?_) (fun h=>?_)
 ·erw[if_pos h,if_pos h]
 ·erw[if_neg h,if_neg h];rfl
theorem ew.er{P:X→Value→Prop}{l di}(h:ew nm P l di){k:Nat}(ai:k<61){x:X}(e:Mine.er k l=I x):∃v,valueAt di (nm k)=I v∧P x v:=by
 induction h with
 |nil=>cases e
 |cons a _ aG=>
  erw[E5]
  rcases pw e with⟨h,e⟩|⟨h,e⟩
  ·cases e;cases h;exact⟨_,if_pos rfl,a⟩
  ·erw[if_neg fun e4=>h (qR ai e4.symm).symm];exact aG e
theorem ew.fS{P:X→Value→Prop}{l di}(h:ew nm P l di){k:Nat}(ai:k<61){x:X}{v:Value}(a:P x v)(aA:(di.map (·.1)).Nodup):ew nm P (Mine.fS k x l) (stored di (nm k) v):=by
 induction h with
 |nil=>exact .cons a .nil
 | @cons j y u r dz b q aG=>
  refine bC (fun zk zl=>?_) (jg.mp aA);show ew nm P (if j=k then _ else _) _;refine bZ (fun h:j=k=>?_) (fun h=>?_)
  ·erw[if_pos h];subst h;erw[E6 zk];exact .cons a q
  ·erw[if_neg h,E7 fun e4=>h (qR ai e4.symm).symm];exact .cons b (aG zl)
theorem ew.g8{P:V→Value→Prop}{l di}(h:ew id P l di)(k:Int):(∃x v,Mine.g8 k l=I x∧valueAt di k=I v∧P x v)∨(Mine.g8 k l=J∧valueAt di k=J):=by
 induction h with
 |nil=>exact .inr ⟨rfl,rfl⟩
 | @cons j y u r dz a _ aG=>
  erw[E5,show Mine.g8 k ((j,y)::r)=if j=k then I y else Mine.g8 k r from rfl];refine bZ (fun e:j=k=>?_) (fun e=>?_)
  ·erw[if_pos e,if_pos (show id j=k from e)];exact .inl ⟨_,_,rfl,rfl,a⟩
  ·erw[if_neg e,if_neg (show¬id j=k from e)];exact aG
theorem ew.mL{P:V→Value→Prop}{l di}(h:ew id P l di){k:Int}{x:V}{v:Value}(a:P x v)(aA:(di.map (·.1)).Nodup):ew id P (Mine.mL k x l) (stored di k v):=by
 induction h with
 |nil=>exact .cons (k:=k) a .nil
 | @cons j y u r dz b q aG=>
  refine bC (fun zk zl=>?_) (jg.mp aA);show ew id P (if j=k then _ else _) _;refine bZ (fun e:j=k=>?_) (fun e=>?_)
  ·erw[if_pos e];cases e;erw[show stored ((id j,u)::dz) j v=(j,v)::dz from E6 zk];exact .cons (k:=j) a q
  ·erw[if_neg e,show stored ((id j,u)::dz) k v=(j,u)::stored dz k v from E7 e];exact .cons (k:=j) b (aG zl)
theorem DictOf.nodup{K:Type}[DecidableEq K]{knd:KeyKind a4 w K}{h:Heap}{a:Addr}{a6:List (K×Value)}(x:h.DictOf knd a a6):(a6.map (·.1)).Nodup:=by obtain⟨_,_,_,_,_,_,_,_,n⟩:=x;exact n
section
variable{cx:bV}{A:Around}{G:Addr→Obj→Prop}{W:a3}{fm:bS}{st st':St}{s:Shared}
theorem ON(slice:Expr)(o i:Value):subscripted slice false o i=operate [i,o] (getItem o i)∨subscripted slice false o i=operate [o,i] (getItem o i):=by
 induction slice using Expr.casesOn with
 |Slice a b c p=>rcases c with _|c<;>first|exact .inl rfl|exact .inr rfl
 |_=>exact .inr rfl
theorem tail_any{value slice:Expr}{o i:Value}{T id:String}{Q:Value→Shared→Prop}(d':s.TypeIs o T)
  (ar:typeLookup (.type T) "__getitem__"=pure (I (.builtin id))) (h:wpAny (model a4 w) A (getItem o i) Q bL s):wpAny (model a4 w) A (subscriptTail value slice o i) Q bL s:=by
 unfold subscriptTail;refine wpAny_bind ?_;erw[getitemInPython_of_ne d'.not_modules];refine wpAny_bind (wpAny_specialOf d' ar ?_);have fin:wpAny (model a4 w) A (subscripted slice false o i) (fun r gO=>wpAny (model a4 w) A (letTemporaryGo value o r>>=fun ag=>pure r) Q bL gO) bL s:=by
  have q:=wpAny_mono h (fun r gO vj=>(wpAny_bind (wpAny_letTemporaryGo (wpAny_pure vj)):wpAny (model a4 w) A (letTemporaryGo value o r>>=fun ag=>pure r) Q bL gO)) fun ag ag x=>x
  rcases ON slice o i with e|e<;>(erw[e];exact wpAny_operating q)
 first
  |exact wpAny_pure (wpAny_bind fin)
  |exact wpAny_bind (wpAny_pure (wpAny_bind fin))
  |exact wpAny_bind fin
theorem zm{i:Int}{m j:Nat}(h:idx i m=I j):0≤i∧i<m∧j=i.toNat∧i≤100000:=by refine bC (fun hh h=>?_) (c0 h);exact⟨hh.1,hh.2.1,(Option.some.inj h).symm,hh.2.2⟩
theorem OO{i:Int}{m:Nat}(h0:0≤i)(aa:i<m):seqIndex? i m=I i.toNat:=by unfold seqIndex?;have:¬i<0:=ez.mpr h0;simp[this,h0,aa]
theorem OP{i:Int}{m n:Nat}(e:m=n)(h:i<m):i<n:=e▸h
inductive zo(w:World)(A:Around)(s:Shared)(u v:Value)(P:Value→Shared→Prop):Prop where
 |mk (T id:String) (aa:s.TypeIs u T) (ab:typeLookup (.type T) "__getitem__"=pure (I (.builtin id))) (h:wpAny (model a4 w) A (getItem u v) P bL s):zo w A s u v P
theorem item_list(R:Rel w ae G W fm st s){xs:List V}{l:Addr}{vs:List Value}{i y:V}{u:Value}(p:s.heap.PlainList l vs.toArray)(q:b5 W xs vs)(j1:b8 W (.v i) u)(h:gL (.lst xs) i=I y):
  zo w A s (.ref l) u (d9 w ae G W fm s st (.v y)):=by
 obtain⟨j,ab,h⟩:=aU (show(intOf i).bind _=I y from h);obtain⟨k,ai,aV⟩:=aU h;obtain rfl:=kC ab;obtain⟨t,rfl⟩:=hQ j1;obtain⟨h0,aa,rfl,ab⟩:=zm ai;obtain⟨v,aJ,bO⟩:=q.get aV;have ar:=q.1.symm;exact⟨_,_,p.isList.typeIs,slot_list_getitem.lookup,(wpAny_getItem_list p.isList h0 (mB ab (by decide)) ((uv).trans aJ) (.self R bO rfl))⟩
theorem E8{k:Nat}{v:Value}(r:b8 W (.v (.str k)) v):∃t,v= .str (nm k) t:=by cases r with|str k t=>exact⟨t,rfl⟩
theorem E9(aQ:cH w ae cb cm)(R:Rel w ae G W fm st s){x i r:X}{u v:Value}(ct:b8 W x u)(j1:b8 W i v)(h:st.item x i=I r):zo w A s u v (d9 w ae G W fm s st r):=by
 obtain⟨i,aw,hh⟩:=aU h;clear h;obtain rfl:=l' aw
 induction x using X.casesOn with
 |v a=>
  obtain⟨y,aV,rfl⟩:=omap (show(gL a i).map X.v=I r from hh);obtain⟨xs,aL,OQ⟩:=aU (show(kr _).bind _=I y from aV)
  rcases y9 aL with rfl|rfl
  ·obtain⟨vs,l,rfl,p,q⟩:=y2 R ct;exact item_list R p q j1 aV
  ·obtain⟨j,ab,OR⟩:=aU OQ;obtain⟨k,ai,OS⟩:=aU OR;obtain rfl:=kC ab;obtain⟨h0,aa,rfl,ab⟩:=zm ai;obtain⟨t,rfl⟩:=hQ j1;obtain⟨vs,l,dH,rfl,ay,a8⟩:=n7 R ct;obtain⟨v,aJ,bO⟩:=a8.get OS;have a5:IsTup s.heap l vs.toArray:=⟨_,ay,rfl,_,rfl⟩
   exact⟨_,_,a5.typeIs,slot_tuple_getitem.lookup,getItem_tuple a5 (cZ (by decide) h0) (mB ab (by decide)) (OO h0 (OP a8.1.symm aa)) ((uv).trans aJ) (.self R bO rfl)⟩
 |cell a=>
  obtain⟨q,aE,rfl⟩:=ct;obtain⟨c,ah,h⟩:=aU (show(st.heap[a]?).bind _=I r from hh);clear hh
  induction c using Cell.casesOn with
  |lst xs=>obtain⟨y,aV,rfl⟩:=omap (show(gL (.lst xs) i).map X.v=I r from h);obtain⟨e,vs,p,bO⟩:=R.cells _ _ _ ah aE;erw[e];exact item_list R p bO j1 aV
  |cw kvs=>
   obtain⟨k,ai,h⟩:=aU (show(intOf i).bind _=I r from h);obtain⟨y,aV,rfl⟩:=omap h;obtain rfl:=kC ai;obtain⟨⟨e,ns⟩,a6,d,ju,mc⟩:=R.cells _ _ _ ah aE;obtain⟨t,rfl⟩:=hQ j1
   rcases(ew.zj (f:=id) ju mc).g8 k with⟨x,v,aa,ab,aq⟩|⟨aa,ab⟩
   ·obtain rfl:=Option.some.inj (aa.symm.trans aV);erw[e];exact⟨_,_,d.typeIs,slot_dict_getitem.lookup,wpAny_getItem_of (k:=k) (knd:=nP a4 w) (by simp[nP,Value.isInt]) d.mapOf ab (.self R.toks aq rfl)⟩
   ·exact c1 (aa.symm.trans aV)
  |e9 kvs=>obtain⟨k,zp,fk⟩:=aU (show(strOf i).bind _=I r from h);clear h;obtain rfl:=Ey zp;obtain⟨ai,fk⟩:=c0 fk;obtain⟨⟨e,ns⟩,a6,d,ju,mc,_⟩:=R.cells _ _ _ ah aE;obtain⟨v,aJ,bO⟩:=(ew.E4 ju mc).er ai fk;obtain⟨t,rfl⟩:=E8 j1;erw[e];exact⟨_,_,d.typeIs,slot_dict_getitem.lookup,wpAny_getItem_of (k:=nm k) (knd:=qt a4 w) (by simp[qt,Value.isStrOf]) d.mapOf aJ (.self R.toks bO rfl)⟩
  |gone|inst=>cases h
theorem OT(aQ:cH w ae cb cm)(R:Rel w ae G W fm st s){x i r:X}{u v:Value}(ct:b8 W x u)(j1:b8 W i v)(h:st.item x i=I r){value slice:Expr}:
  wpAny (model a4 w) A (subscriptTail value slice u v) (d9 w ae G W fm s st r) bL s:=by
 obtain⟨T,id,aa,ab,aq⟩:=E9 (A:=A) aQ R ct j1 h;exact tail_any aa ab aq
end
end
end Mine
end
section
open PySem PySem.W PySem.Calls PyProof.Rows PySem.SeqAt
namespace Mine
noncomputable section
section
variable{cx:bV}{A:Around}{G:Addr→Obj→Prop}{W:a3}{fm:bS}{st st':St}{s:Shared}
theorem E'(f:Array Value→Array Value)(af:Array Value)(n:Nat):∃k,Obj.mapSeq f {cls:=.type "list",data:=.seq af n}={cls:=.type "list",data:=.seq (f af) k}:=by simp[Obj.mapSeq]
theorem OU{E:Value→Shared→Prop}{l:Addr}{items:Array Value}{k:Int}{t:Tok}{v:Value}{Q:Unit→Shared→Prop}(ar:s.heap.PlainList l items)
  (h0:0≤k) (eH:k<2^63) (aA:k<items.size)
  (cQ:∀h',h'.PlainList l (items.setIfInBounds k.toNat v)→Heap.SameBut l s.heap h'→Q () {s with heap:=h'}):
  wpAny (model a4 w) A (setItem (.ref l) (.int k t) v) Q E s:=by
 obtain⟨ne,aO⟩:=id ar;have hd:({cls:=.type "list",data:=.seq items ne}:Obj).data= .seq items ne:=rfl;unfold setItem
 try with_reducible refine wpAny_holding ?_
 first|refine wpAny_bind (wpAny_pure ?_)|skip
 refine wpAny_bind (wpAny_sequenceKey ar.isList.typeIs (by decide) ?_);refine wpAny_bind (wpAny_callSpecial?_slot (name:=Str.ofString "__setitem__") ar.isList.typeIs slot_list_setitem
  (wpAny_call_entry slot_list_setitem ar.isList.typeIs entry_list_setitem ?_ (args_list_setitem _ _ _)))
 show wpAny _ _ (Builtin.List.listSubscript? (.int k t)>>=_) _ _ s;refine wpAny_bind (wpAny_listSubscript_int (fitsIndex_of h0 eH) ?_);clear eH;obtain⟨j,rfl⟩:=Z6 h0;have a':j<items.size:=by exact Ds ‹_›
 have sJ:=Array.getElem?_eq_getElem a';refine wpAny_bind (wpAny_bind (wpAny_seqItemAt aO hd (wpAny_pure ?_)));erw[sJ];obtain⟨aaI,lg⟩:=Obj.data_mapSeq hd (·.setIfInBounds j v);have ht:(s.heap.update l (Obj.mapSeq (·.setIfInBounds j v))).PlainList l (items.setIfInBounds j v):=by obtain⟨k,ai⟩:=E' (·.setIfInBounds j v) items ne;refine⟨k,?_⟩;erw[Heap.get?_update_self _ aO (Obj.isFreed_of_seq lg),ai]
 refine wpAny_bind (wpAny_setSeqItemAt aO hd ?_)
 first
  |exact wpAny_bind (wpAny_pure (wpAny_pure ⟨.none,rfl,wpAny_pure (cQ _ ht (Heap.SameBut.update ..))⟩))
  |exact wpAny_pure ⟨.none,rfl,wpAny_pure (cQ _ ht (Heap.SameBut.update ..))⟩
theorem b5.set{xs:List V}{vs:List Value}(h:b5 W xs vs){k:Nat}{x:V}{v:Value}(r:dd W x v):b5 W (xs.set k x) (vs.set k v):=by
 refine⟨by simp[h.1],fun i y u aa ab=>?_⟩;rw[LF]at aa ab;refine bZ (fun e:k=i=>?_) (fun e=>?_)
 ·subst e;simp only[if_true]at aa ab
  split at aa
  ·split at ab
   ·cases aa;cases ab;exact r
   ·cases ab
  ·cases aa
 ·rw[if_neg e]at aa ab;exact h.2 i y u aa ab
theorem OV{bd k:Nat}{x:X}:∀{l:List (Nat×X)},(∀y∈l,iW bd y.2)→iW bd x→∀y∈fS k x l,iW bd y.2:=by
 intro aT
 induction aT with
 |nil=>intro _ aC y aV;simp only[DP,dY]at aV;subst aV;exact aC
 |cons dA r aD=>
  obtain⟨j,z⟩:=dA;intro h aC y aV;rw[DQ]at aV
  split at aV
  ·rcases ec.mp aV with rfl|aV
   ·exact aC
   ·exact h y (.tail _ aV)
  ·rcases ec.mp aV with rfl|aV
   ·exact h _ (.head _)
   ·exact aD (fun y aV=>h y (.tail _ aV)) aC y aV
theorem Fb(aQ:cH w ae cb cm)(R:Rel w ae G W fm st s){o i x:X}{u v z:Value}(so:b8 W o u)(j1:b8 W i v)(ct:b8 W x z)(h:st.setItem o i x=I st'):
  wpAny (model a4 w) A (setItem u v z) (fun ag=>hy w ae G W fm s st') bL s:=by
 obtain⟨i,aw,hh⟩:=aU h;clear h;obtain rfl:=l' aw;obtain⟨a,aB,aa⟩:=aU hh;obtain rfl:=mX aB;obtain⟨q,aE,rfl⟩:=so;obtain⟨c,ah,h0⟩:=aU aa;clear hh aa;obtain⟨dr,h,rfl⟩:=omap h0;clear h0
 induction c using Cell.casesOn with
 |lst xs=>obtain⟨j,a',aq⟩:=aU (show(intOf i).bind _=I dr from h);obtain⟨y,aV,ba⟩:=aU aq;clear h aq;obtain⟨k,ai,rfl⟩:=omap ba;obtain rfl:=kC a';obtain rfl:=l' aV;obtain⟨h0,aa,rfl,ab⟩:=zm ai;obtain⟨t,rfl⟩:=hQ j1;obtain⟨e,vs,p,bO⟩:=R.cells _ _ _ ah aE;erw[e];refine OU p h0 (k0 ‹_› rfl) (by simpa [bO.1]using aa) fun h' cn fL=>?_;exact⟨W,.rfl,R.setC ah rfl aE fL ⟨e,vs.set j.toNat z,by simpa using cn,bO.set ct⟩,rfl⟩
 |cw kvs=>
  obtain⟨k,ai,aq⟩:=aU (show(intOf i).bind _=I dr from h);obtain⟨y,aV,ba⟩:=aU aq;clear h aq;obtain rfl:=kC ai;obtain rfl:=l' aV;refine bC (fun eH ba=>?_) (c0 ba);cases ba;obtain⟨t,rfl⟩:=hQ j1;obtain⟨⟨e,ns⟩,a6,d,ju,mc⟩:=R.cells _ _ _ ah aE;erw[e];have iC:=ew.zj (f:=id) ju mc;refine wpAny_setItem_pairs (k:=k) (knd:=nP a4 w) (by simp[nP,Value.isInt]) d (fun h' qT fL=>?_) ?_
  ·have sL:=iC.mL (k:=k) ct (DictOf.nodup d);exact⟨W,.rfl,R.setC ah rfl aE fL ⟨⟨e,ns⟩,_,qT,sL.keys,sL.OL⟩,rfl⟩
  ·erw[iC.length,sizeLine_eq];have:=dO eH;exact cz ‹_› rfl
 |e9 kvs=>
  obtain⟨k,ai,aq⟩:=aU (show(strOf i).bind _=I dr from h);clear h;obtain rfl:=Ey ai;obtain⟨⟨ai,eH,aC⟩,aq⟩:=c0 aq;cases aq;obtain⟨t,rfl⟩:=E8 j1;obtain⟨⟨e,ns⟩,a6,d,ju,mc,bf⟩:=R.cells _ _ _ ah aE;erw[e];have iC:=ew.E4 ju mc;refine wpAny_setItem_pairs (k:=nm k) (knd:=qt a4 w) (by simp[qt,Value.isStrOf]) d (fun h' qT fL=>?_) ?_
  ·have sL:=iC.fS ai ct (DictOf.nodup d);refine⟨W,.rfl,R.setC ah rfl aE fL ⟨⟨e,ns⟩,_,qT,sL.keys,sL.OM,OV bf ?_⟩,rfl⟩
   induction x using X.casesOn with
   |v y=>trivial
   |cell j=>
    have ob:st.base≤a:=by simpa [valOf]using aC
    erw[yN ob];exact below R ct
  ·erw[iC.length,sizeLine_eq];have:=dO eH;exact cz ‹_› rfl
 |gone|inst=>cases h
theorem OW(aQ:cH w ae cb cm){e i:Expr}{p:Pos}(he:bj w ae C n cx e)(aw:bj w ae C n cx i){aH pi:ao}(ce:aW cx e=I aH)(ci:aW cx i=I pi){A:Around}(ax:d1 n A){G W fm st s x st'}(hf:dw cx fm)(R:Rel w ae G W fm st s)(aN:aj C (.item aH pi) st=I (x,st')):
  wpAny (model a4 w) A (eval (.Subscript e i p) fm.env) (d9 w ae G W fm s st' x) bL s:=by
 obtain⟨x,s1,bT,aa⟩:=b2 (show aY (aj C aH st) _=I (_,st')from aN);obtain⟨y,s2,cU,ab⟩:=b2 aa;obtain⟨r,av,aq⟩:=omap ab;cases aq;exact Subscript_ (two he aw ce ci ax hf R bT cU fun pD fK W' s' l de a0 ct dP=>sel (OT aQ de ct dP av) l a0)
theorem Rel.zq(R:Rel w ae G W fm st s){xs:List V}{vs:List Value}{k:Nat}(r:b5 W xs vs):d9 w ae G W fm s st (.v (.lst xs)) (.ref s.heap.objs.size) {s with heap:=s.heap.push {cls:=.type "list",data:=.seq vs.toArray},toks:=k}:=⟨_,a3.gE,R.Ef rfl,.lst (.inr ⟨rfl,rfl⟩) ⟨0,rfl⟩ r.1 (r.mono a3.gE).2,rfl⟩
theorem Rel.zr(R:Rel w ae G W fm st s){xs:List V}{vs:List Value}{k:Nat}(r:b5 W xs vs):d9 w ae G W fm s st (.v (.tup xs)) (.ref s.heap.objs.size) {s with heap:=s.heap.push {cls:=.type "tuple",data:=.seq vs.toArray},toks:=k}:=⟨_,a3.gE,R.Ef rfl,.tup (.inr ⟨rfl,rfl⟩) ⟨0,rfl⟩ r.1 (r.mono a3.gE).2,rfl⟩
theorem Rel.qU(R:Rel w ae G W fm st s){q:Addr×Addr}:(W.p++[q])[st.heap.length]? =I q:=R.len▸LG
theorem a3.sM{q:Addr×Addr}:W.le {W with p:=W.p++[q]}:=⟨fun ag ag h=>h,ir _,o3 _ _⟩
theorem Rel.Fc(R:Rel w ae G W fm st s){xs:List V}{vs:List Value}{k:Nat}(r:b5 W xs vs):d9 w ae G W fm s (st.new (.lst xs)).2 (st.new (.lst xs)).1 (.ref s.heap.objs.size) {s with heap:=s.heap.push {cls:=.type "list",data:=.seq vs.toArray},toks:=k}:=⟨_,a3.sM,(R.keep (k:=k) fun ag ag e=>Heap.get?_push_of_some _ e).n6 (q:=(s.heap.objs.size,s.heap.objs.size)) (R.h7 (bE _)) ⟨rfl,vs,⟨0,Heap.get?_push_size _ rfl⟩,r.mono a3.sM⟩,⟨_,R.qU,rfl⟩,rfl⟩
end
end
end Mine
end
section
open PySem PySem.W PySem.Calls PyProof.Rows PySem.SeqAt
namespace Mine
noncomputable section
section
variable{cx:bV}{A:Around}{G:Addr→Obj→Prop}{W W':a3}{fm fm':bS}{st st':St}{s:Shared}
noncomputable abbrev i1(G:Addr→Obj→Prop)(E:List (Addr×Obj)):Addr→Obj→Prop:=fun a o=>G a o∨(a,o)∈E
theorem Rel.i2(R:Rel w ae G W fm st s){E:List (Addr×Obj)}(h:∀a o,(a,o)∈E→s.heap.get? a=I o∧¬fT W fm st a∧∀br,¬W.F a br):Rel w ae (i1 G E) W fm st s:=R.Ej (fun ag ag g=>.inl g) fun a o g=>g.imp id (h a o)
theorem Rel.Fd{E:List (Addr×Obj)}(R:Rel w ae (i1 G E) W fm st s)(h:∀a o,(a,o)∈E→∀v,o.data≠ .cell v):Rel w ae G W fm st s:=R.yV (fun ag ag g=>.inl g) fun x i a b=>by obtain⟨c,v,o,e,g,d,r⟩:=R.jr x i a b;exact⟨c,v,o,e,g.resolve_right fun g=>h _ _ g v d,d,r⟩
theorem Rel.zt{E:List (Addr×Obj)}(R:Rel w ae (i1 G E) W fm st s){a:Addr}{o:Obj}(h:(a,o)∈E)(dF:∀o,¬G a o):Off G W fm st a:=⟨fun aO=>R.eB a aO o (.inr h),fun br f=>R.fz a br o f (.inr h),dF⟩
theorem Rel.vk(R:Rel w ae G W fm st s){d:Addr}(hd:Off G W fm st d){h':Heap}{k:Nat}(aL:Heap.SameBut d s.heap h'):Rel w ae G W fm st {s with heap:=h',toks:=k}:=R.u6 fun b o e h=>(aL.2 b (hd.ne h)).trans e
theorem Rel.Fe(R:Rel w ae G W fm st s)(i:Nat):hx fm st.base st.heap.length i≤st.heap.length:=by
 refine bZ (fun h:i<st.base=>?_) (fun h=>?_)
 ·exact(yO h).symm▸bR (R.n5 i h) R.cP
 ·exact(yN (Nat.le_of_not_lt h)).symm▸bE _
noncomputable def own(fm:bS)(h:Heap)(a:Addr)(o:Obj):Prop:=hv fm a∧h.get? a=I o
abbrev i3(G:Addr→Obj→Prop)(fm:bS)(h:Heap):Addr→Obj→Prop:=fun a o=>G a o∨own fm h a o
theorem own.zu{h:Heap}{a:Addr}{o:Obj}(x:own fm h a o):fT W fm st a:=.fr x.1
theorem Rel.owned(R:Rel w ae G W fm st s){a:Addr}(f:hv fm a):∃o,own fm s.heap a o:=(R.lo.alive f).elim fun o e=>⟨o,f,e⟩
theorem Rel.Ff(R:Rel w ae G W fm st s){a:Addr}{o:Obj}(g:i3 G fm s.heap a o):s.heap.get? a=I o:=g.elim (R.e3 a o) qp
theorem Rel.enter(R:Rel w ae G W fm st s){loc':List (Option X)}{b':Nat}{h':Heap}{k:Nat}(ai:∀b o,s.heap.get? b=I o→h'.get? b=I o)
  (fresh:∀a,hv fm' a→s.heap.get? a=J) (lo:ky (i3 G fm s.heap) W fm' loc' h')
  (bd:∀i,i<st.heap.length→hx fm st.base st.heap.length i≤hx fm' b' st.heap.length i) (cP:b'≤st.heap.length) (n5:∀i,i<b'→fm'.bd i≤b') (above:ae.objs.size≤fm'.env.locals):
  Rel w ae (i3 G fm s.heap) W fm' {st with loc:=loc',base:=b'} {s with heap:=h',toks:=k} where
 cD:=fun a o f=>ai _ _ (R.cD a o f)
 e3:=fun a o g=>ai _ _ (R.Ff g)
 len:=R.len
 tag:=R.tag
 cl:=fun{i c q} l=>((R.cl l).mono .rfl (bd i (d7.mp l.1).1)).at' fun o=>ai _ o
 apart:=R.apart
 fU:=fun a h o f=>by
  rcases h with h|⟨i,c,q,l,e⟩
  ·exact mS (fresh a h) (R.cD a o f)
  ·exact R.fU a (.hp i c q l e) o f
 eB:=fun a h o g=>by
  rcases h with h|⟨i,c,q,l,e⟩
  ·exact mS (fresh a h) (R.Ff g)
  ·exact g.elim (R.eB a (.hp i c q l e) o) fun g=>R.g' l (g.1.eq e)
 g':=fun{i c q} l h=>(R.alive (.hp i c q l rfl)).elim fun ag e=>mS (fresh _ h) e
 lo:=lo
 gens:=R.gens
 cP:=cP
 fz:=fun a o br f g=>g.elim (R.fz _ _ _ f) fun g=>R.fU a g.zu o f
 base:=R.base
 above:=above
 n5:=n5
theorem Rel.leave(R:Rel w ae G W fm st s){s':Shared}{H:List Cell}{P:List (Addr×Addr)}(eG:W.le W')(de:Rel w ae (i3 G fm s.heap) W' fm' st' s')
  (dM:P.length=H.length) (m1:∀{i c q},gD P H i c q→gD W'.p st'.heap i c q)
  (OX:W.p<+:P)
  (ib:∀{i c q},gD P H i c q→e' w W' s'.heap (hx fm' st'.base st'.heap.length i) q c→e' w {W' with p:=P} s'.heap (hx fm st.base H.length i) q c) (vl:st.base≤H.length):
  Rel w ae G {W' with p:=P} fm {st with heap:=H,tag:=st'.tag} s' where
 cD:=de.cD
 e3:=fun a o g=>de.e3 a o (.inl g)
 len:=dM
 tag:=de.tag
 cl:=fun l=>ib l (de.cl (m1 l))
 apart:=fun aM bt h=>de.apart (m1 aM) (m1 bt) h
 fU:=fun a h o f=>by
  rcases h with h|⟨i,c,q,l,e⟩
  ·exact(R.owned h).elim fun br g=>de.fz a o br f (.inr g)
  ·exact de.fU a (.hp i c q (m1 l) e) o f
 eB:=fun a h o g=>by
  rcases h with h|⟨i,c,q,l,e⟩
  ·exact R.eB a (.fr h) o g
  ·exact de.eB a (.hp i c q (m1 l) e) o (.inl g)
 g':=fun{i c q} l h=>(R.owned h).elim fun o g=>de.eB q.2 (.hp i c q (m1 l) rfl) o (.inr g)
 lo:=R.lo.keep ⟨eG.F,eG.t,OX⟩ (fun ag ag g=>g) fun a f o e=>de.e3 a o (.inr ⟨f,e⟩)
 gens:=de.gens
 cP:=vl
 fz:=fun a o br f g=>de.fz a o br f (.inl g)
 base:=de.base
 above:=R.above
 n5:=R.n5
end
end
end Mine
end
section
open PySem PySem.W PySem.Calls PyProof.Rows PySem.SeqAt
namespace Mine
noncomputable section
section
variable{cx:bV}{A:Around}{G:Addr→Obj→Prop}{W W':a3}{fm fm':bS}{st st':St}{s:Shared}
inductive vm(w:World)(ae:Heap)(G:Addr→Obj→Prop)(W:a3)(fm:bS)(s:Shared)(st':St)(xs:List X)(us:List Value)(s':Shared):Prop where
 |mk (W':a3) (l:W.le W') (R:Rel w ae G W' fm st' s') (r:cM W' xs us) (o:s'.os=s.os):vm w ae G W fm s st' xs us s'
theorem qV{A:Around}{m:Sem (List Value)}{xs:List X}{Q:List Value→Shared→Prop}(h:wpAny (model a4 w) A m (vm w ae G W fm s st' xs) bL s)(k:∀u s₁ W1,W.le W1→Rel w ae G W1 fm st' s₁→cM W1 xs u→s₁.os=s.os→Q u s₁):wpAny (model a4 w) A m Q bL s:=wpAny_mono h (fun u s₁ q=>match q with|⟨W1,a,b,c,d⟩=>k u s₁ W1 a b c d) fun ag ag x=>x
theorem Fg{e:Expr}{rest:List Expr}{env:Env}(h:∀a q,e≠ .Starred a q):starEach (e::rest) env=(false,eval e env)::starEach rest env:=by
 induction e using Expr.casesOn<;>first|rfl|exact absurd rfl (h _ _)
theorem lh{e:Expr}{rest:List Expr}{env:Env}{aH:ao}(h:aW cx e=I aH):starEach (e::rest) env=(false,eval e env)::starEach rest env:=Fg fun a q e=>c1 (show aW cx (.Starred a q)=I aH from e▸h)
theorem qW{pos:Pos}{env:Env}:∀{es:List Expr} {bg:az},dv cx es=I bg→(backTo pos (starEach es env)).any (·.1)=false:=by
 intro aT
 induction aT with
 |nil=>intro _ _;exact rfl
 |cons e r aD=>
  intro _ h;obtain⟨bx,bN,ca,dy,rfl⟩:=oa h;erw[lh ca];show(false||(backTo pos (starEach r env)).any (·.1))=false
  erw[aD dy];rfl
theorem zv{pos:Pos}:∀{es:List Expr},(∀e,e∈es→bj w ae C n cx e)→∀{bg},dv cx es=I bg→∀{A},d1 n A→∀{G W fm st s xs st'},dw cx fm→Rel w ae G W fm st s→dq C bg st=I (xs,st')→wpAny (model a4 w) A (spliced (backTo pos (starEach es fm.env))) (vm w ae G W fm s st' xs) bL s:=by
 intro aT
 induction aT with
 |nil=>intro _ _ ah _ _ _ _ _ _ _ _ _ _ R aN;cases ah;cases aN;exact args_nil ⟨_,.rfl,R,trivial,rfl⟩
 |cons e r aD=>intro h _ ah A ax _ _ _ st _ xs st' hf R aN;obtain⟨bx,bN,ca,dy,rfl⟩:=oa ah;obtain⟨x,s1,bT,aa⟩:=b2 (show aY (aj C bx st) _=I (xs,st')from aN);obtain⟨aS,s2,cU,ab⟩:=b2 aa;cases ab;exact args_cons (dm (h e (.head _) ca ax hf R bT) fun u s₁ W1 aM aZ a8 a0=>qV (aD (fun e he=>h e (.tail _ he)) dy ax hf aZ cU) fun v s₂ cN bt cy b3 cK=>⟨cN,aM.trans bt,cy,⟨a8.mono bt,b3⟩,cK.trans a0⟩) (lh ca)
theorem Fh:∀{bg:az} {st st':St} {vs:List V},iy C bg st=I (vs,st')→dq C bg st=I (vs.map .v,st')
 | .nil,_,_,_,h=>by cases h;rfl
 | .cons e es,st,st',vs,h=>by
  obtain⟨x,s1,ay,aa⟩:=b2 (show aY (aj C e st) _=I (vs,st')from h);obtain⟨v,aJ,ab⟩:=aU aa;obtain⟨ws,s2,au,aq⟩:=b2 ab;cases aq;obtain rfl:=l' aJ;show aY (aj C e st) _=_;erw[ay];have ba:aY (dq C es s1) (fun xs st=>I (X.v v::xs,st))=I (X.v v::ws.map .v,s2):=by erw[Fh au];rfl
  exact ba
theorem cM.toV:∀{vs:List V} {us:List Value},cM W (vs.map .v) us→b5 W vs us
 |[],[],_=>.nil
 |_::_,_::_,h=>.cons h.1 (cM.toV h.2)
 |[],_::_,h=>h.elim
 |_::_,[],h=>h.elim
inductive OY(w:World)(ae:Heap)(G:Addr→Obj→Prop)(W:a3)(fm:bS)(s:Shared)(st':St)(xs:List V)(us:List Value)(s':Shared):Prop where
 |mk (W':a3) (l:W.le W') (R:Rel w ae G W' fm st' s') (r:b5 W' xs us) (o:s'.os=s.os):OY w ae G W fm s st' xs us s'
theorem zw{es:List Expr}{pos:Pos}(h:∀e,e∈es→bj w ae C n cx e){bg:az}(ah:dv cx es=I bg){A:Around}(ax:d1 n A){G W fm st s vs st'}(hf:dw cx fm)(R:Rel w ae G W fm st s)(aN:iy C bg st=I (vs,st')){Q:List Value→Shared→Prop}
  (k:∀u s₁ W1,W.le W1→Rel w ae G W1 fm st' s₁→b5 W1 vs u→s₁.os=s.os→Q u s₁):wpAny (model a4 w) A (spliced (backTo pos (starEach es fm.env))) Q bL s:=
 qV (zv h ah ax hf R (Fh aN)) fun u s₁ W1 l de r o=>k u s₁ W1 l de r.toV o
theorem hA{k:Nat}(h:fit k=true):k≤sizeLine:=by have:=of_decide_eq_true h;erw[sizeLine_eq];exact cz ‹_› rfl
theorem oc{xs:List V}{r p:X×St}(h:ku xs r=I p):fit xs.length=true∧r=p:=by obtain⟨a,b⟩:=c0 h;exact⟨a,Option.some.inj b⟩
theorem OZ{es:List Expr}{k:Nat}{p:Pos}(h:∀e,e∈es→bj w ae C n cx e):bj w ae C n cx (.Tuple es k p):=by intro aH ah A ax G W fm st s v st' hf R aN;obtain⟨bg,iY,rfl⟩:=omap (show(dv cx es).map ao.tup=I aH from ah);obtain⟨vs,s1,ev,aa⟩:=b2 (show aY (iy C bg st) _=I (v,st')from aN);refine bC (fun eH ab=>?_) (oc aa);cases ab;exact wpAny_Tuple (zw h iY ax hf R ev fun us s' W1 aM aZ a8 a0=>⟨by erw[a8.1];exact hA eH,(aZ.zr (k:=s'.toks) a8).step aM a0⟩)
theorem O0{es:List Expr}{p:Pos}(h:∀e,e∈es→bj w ae C n cx e):bj w ae C n cx (.List es p):=by intro aH ah A ax G W fm st s v st' hf R aN;obtain⟨bg,iY,rfl⟩:=omap (show(dv cx es).map ao.lst=I aH from ah);obtain⟨vs,s1,ev,aa⟩:=b2 (show aY (iy C bg st) _=I (v,st')from aN);refine bC (fun eH ab=>?_) (oc aa);cases ab;exact wpAny_List (zw h iY ax hf R ev fun us s' W1 aM aZ a8 a0=>⟨by erw[a8.1];exact hA eH,(aZ.zq (k:=s'.toks) a8).step aM a0⟩)
def e5(w:World)(ae:Heap)(C:Calls)(n:Nat)(cx:bV)(e:Expr)(aH:ao):Prop:=∀A,d1 n A→∀{G W fm st s x st'},dw cx fm→Rel w ae G W fm st s→aj C aH st=I (x,st')→wpAny (model a4 w) A (eval e fm.env) (d9 w ae G W fm s st' x) bL s
theorem bj.qX{e:Expr}{aH:ao}(h:bj w ae C n cx e)(ah:aW cx e=I aH):e5 w ae C n cx e aH:=fun ag ax ag ag ag ag ag ag ag hf R aN=>h ah ax hf R aN
theorem Fi{es:List Expr}{p:Pos}(h:∀e,e∈es→bj w ae C n cx e){bg:az}(ah:dv cx es=I bg):e5 w ae C n cx (.List es p) (.jm bg):=by intro A ax G W fm st s v st' hf R aN;obtain⟨vs,s1,ev,aa⟩:=b2 (show aY (iy C bg st) _=I (v,st')from aN);refine bC (fun eH ab=>?_) (oc aa);cases ab;exact wpAny_List (zw h ah ax hf R ev fun us s' W1 aM aZ a8 a0=>⟨by erw[a8.1];exact hA eH,(aZ.Fc (k:=s'.toks) a8).step aM a0⟩)
theorem zx(R:Rel w ae G W fm st s){x:X}{u:Value}(ct:b8 W x u){xs:List V}(aJ:st.val x=I (.lst xs))(eH:fit xs.length=true){oe og oh:Value}{lo aw sp:Option Int}(pl:IsPart oe lo)(pu:IsPart og aw)(c6:IsPart oh sp)(h0:sp≠I 0)
  {value slice:Expr} {k:Nat} {Q:Value→Shared→Prop} (h:∀vs (jt:Nat),b5 W xs vs→Rel w ae G W fm st {s with heap:=s.heap.push {cls:=.type "slice",data:=.fields #[oe,og,oh]},toks:=k}→Q (.ref (s.heap.push {cls:=.type "slice",data:=.fields #[oe,og,oh]}).objs.size) {s with heap:=(s.heap.push {cls:=.type "slice",data:=.fields #[oe,og,oh]}).push {cls:=.type "list",data:=.seq (slicePick vs.toArray lo aw sp).toList.toArray},toks:=k}):
  wpAny (model a4 w) A (subscriptTail value slice u (.ref s.heap.objs.size)) Q bL {s with heap:=s.heap.push {cls:=.type "slice",data:=.fields #[oe,og,oh]},toks:=k}:=by
 obtain⟨vs,l,rfl,p,r⟩:=n9 R ct aJ;have aZ:=R.keep (h':=s.heap.push {cls:=.type "slice",data:=.fields #[oe,og,oh]}) (k:=k) fun b o e=>Heap.get?_push_of_some _ e;have cL:(s.heap.push {cls:=.type "slice",data:=.fields #[oe,og,oh]}).PlainList l vs.toArray:=p.at fun o e=>Heap.get?_push_of_some _ e;refine tail_any (s:={s with heap:=s.heap.push {cls:=.type "slice",data:=.fields #[oe,og,oh]},toks:=k}) cL.isList.typeIs slot_list_getitem.lookup (wpAny_getItem_list_slice cL.isList (Heap.IsSliceOf.new ..) pl pu c6 h0 ?_ ?_)
 ·have:=h vs 0 r aZ;replace this:=Z7▸this;exact this
 ·have:=hA eH;erw[jh,r.1];exact this
theorem b5.reverse{xs:List V}{vs:List Value}(h:b5 W xs vs):b5 W xs.reverse vs.reverse:=by
 induction xs generalizing vs with
 |nil=>erw[h.u4];exact .nil
 |cons x r aG=>obtain⟨v,q,rfl,a,b⟩:=h.sm;erw[mE,mE];exact(aG b).append (.cons a .nil)
theorem b5.take{xs:List V}{vs:List Value}(h:b5 W xs vs)(k:Nat):b5 W (xs.take k) (vs.take k):=by
 refine⟨by simp[h.1],fun i x v a b=>?_⟩;rw[CO]at a b
 split at a
 ·rename_i ai;rw[if_pos ai]at b;exact h.2 i x v a b
 ·cases a
theorem b5.drop{xs:List V}{vs:List Value}(h:b5 W xs vs)(k:Nat):b5 W (xs.drop k) (vs.drop k):=by refine⟨by simp[h.1],fun i x v a b=>?_⟩;rw[LJ]at a b;exact h.2 _ x v a b
theorem O1(vs:List Value)(k:Nat):(slicePick vs.toArray J (I (k:Int)) J).toList=vs.take k:=by refine(congrArg Array.toList (kms_pick_eq ..)).trans ?_;show(vs.drop 0).take ((if(k:Int)<0 then vs.length-(-(k:Int)).toNat else min k vs.length)-0)=_;erw[if_neg (ez.mpr (nL k))];exact kmk_take_min ..
theorem Fj{cL ck gK:Pos}{k:Nat}{Q:Value→Shared→Prop}{env:Env}{E:Value→Shared→Prop}(h:∀t k,Q (.ref s.heap.objs.size) {s with heap:=s.heap.push {cls:=.type "slice",data:=.fields #[.none,.none,.int (-1) t]},toks:=k}):
  wpAny (model a4 w) A (eval (.Slice J J (I (.UnaryOp .USub (.Constant (.int 1) k cL) ck)) gK) env) Q E s:=by
 refine wpAny_Slice ?_;erw[evalPart_none];refine wpAny_pure (wpAny_pure ?_);erw[evalPart_some];refine wpAny_UnaryOp (wpAny_Constant_int (neg_int ?_));exact h _ _
inductive Fl(C:Calls)(aH:ao)(f:List V→St→X×St)(st:St)(v:X)(st':St):Prop where
 |mk (x:X) (s1:St) (bT:aj C aH st=I (x,s1)) (xs:List V) (aJ:s1.val x=I (.lst xs)) (eH:fit xs.length=true) (e:f xs s1=(v,st')):Fl C aH f st v st'
theorem zy{aH:ao}{f:List V→St→X×St}{v:X}(h:aY (aj C aH st) (fun x st=>(st.val x).bind fun v=>(kq v).bind fun xs=>ku xs (f xs st))=I (v,st')):Fl C aH f st v st':=by refine eA fun cF=>?_;obtain⟨x,s1,bT,aa⟩:=b2 h;obtain⟨a,aJ,ab⟩:=aU aa;obtain⟨xs,ar,aq⟩:=aU ab;refine cF ?_;refine bC (fun eH e=>?_) (oc aq);obtain rfl:=qP ar;exact⟨x,s1,bT,xs,aJ,eH,e⟩
theorem O2{e:Expr}{aH:ao}{p cL ck gK:Pos}{k:Nat}(he:bj w ae C n cx e)(ce:aW cx e=I aH):e5 w ae C n cx (.Subscript e (.Slice J J (I (.UnaryOp .USub (.Constant (.int 1) k cL) ck)) gK) p) (.rev aH):=by intro A ax G W fm st s v st' hf R aN;obtain⟨x,s1,ev,xs,aJ,eH,e⟩:=zy (f:=fun xs st=>(.v (.lst xs.reverse),st)) aN;cases e;refine Subscript_ (dm (he ce ax hf R ev) fun u s₁ W1 aM aZ a8 a0=>Fj fun t k=>zx aZ a8 aJ eH .none .none (.int _ t) (by simp) fun vs ag bO cy=>?_);erw[krv_pick];exact(cy.zq (k:=k) bO.reverse).step aM (by exact a0)
theorem O3{e:Expr}{aH:ao}{p cL ck gK:Pos}{k:Nat}(he:bj w ae C n cx e)(ce:aW cx e=I aH):e5 w ae C n cx (.Subscript e (.Slice J J (I (.UnaryOp .USub (.Constant (.int 1) k cL) ck)) gK) p) (.pb aH):=by intro A ax G W fm st s v st' hf R aN;obtain⟨x,s1,ev,xs,aJ,eH,e⟩:=zy (f:=fun xs st=>st.new (.lst xs.reverse)) aN;cases e;refine Subscript_ (dm (he ce ax hf R ev) fun u s₁ W1 aM aZ a8 a0=>Fj fun t k=>zx aZ a8 aJ eH .none .none (.int _ t) (by simp) fun vs ag bO cy=>?_);erw[krv_pick];exact(cy.Fc (k:=k) bO.reverse).step aM (by exact a0)
theorem O4{e:Expr}{aH:ao}{p cL gK:Pos}{k m:Nat}(he:bj w ae C n cx e)(ce:aW cx e=I aH):e5 w ae C n cx (.Subscript e (.Slice J (I (.Constant (.int (.ofNat m)) k cL)) J gK) p) (.uK aH m):=by intro A ax G W fm st s v st' hf R aN;obtain⟨x,s1,ev,xs,aJ,eH,e⟩:=zy (f:=fun xs st=>(.v (.lst (xs.take m)),st)) aN;cases e;refine Subscript_ (dm (he ce ax hf R ev) fun u s₁ W1 aM aZ a8 a0=>?_);refine wpAny_Slice ?_;erw[evalPart_none];refine wpAny_pure ?_;erw[evalPart_some];refine wpAny_Constant_int ?_;refine wpAny_pure (zx aZ a8 aJ eH .none (.int _ _) .none (by simp) fun vs ag bO cy=>?_);erw[show(Int.ofNat m)=(m:Int)from rfl,O1];exact(cy.zq (k:=s₁.toks+1) (bO.take m)).step aM (by exact a0)
theorem O5{e:Expr}{aH:ao}{p cL gK:Pos}{k:Nat}(he:bj w ae C n cx e)(ce:aW cx e=I aH):e5 w ae C n cx (.Subscript e (.Slice (I (.Constant (.int 1) k cL)) J J gK) p) (.uL aH):=by
 intro A ax G W fm st s v st' hf R aN;obtain⟨x,s1,ev,aa⟩:=b2 (show aY (aj C aH st) _=I (v,st')from aN);obtain⟨xs,aC,ab⟩:=aU aa;refine bC (fun i0 aq=>?_) (hu ab);refine bC (fun eH ba=>?_) (oc aq);clear aN aa ab aq;cases ba;obtain rfl:=EA aC;refine Subscript_ (dm (he ce ax hf R ev) fun u s₁ W1 aM aZ a8 a0=>?_);obtain⟨vs,l,dH,rfl,ay,bO⟩:=n7 aZ a8;refine wpAny_Slice ?_;erw[evalPart_some];refine wpAny_Constant_int ?_;erw[evalPart_none];refine wpAny_pure (wpAny_pure ?_);have cy:=aZ.keep (h':=s₁.heap.push {cls:=.type "slice",data:=.fields #[.int 1 s₁.toks,.none,.none]}) (k:=s₁.toks+1) fun b o e=>Heap.get?_push_of_some _ e;have a5:IsTup (s₁.heap.push {cls:=.type "slice",data:=.fields #[.int 1 s₁.toks,.none,.none]}) l vs.toArray:=⟨_,Heap.get?_push_of_some _ ay,rfl,_,rfl⟩
 have ar:=bO.1;have hp:1≤vs.length:=by
  erw[ar]
  induction xs using bY with
  |nil=>exact absurd rfl i0
  |cons a r=>exact ji _
 refine tail_any (s:={s₁ with heap:=s₁.heap.push {cls:=.type "slice",data:=.fields #[.int 1 s₁.toks,.none,.none]},toks:=s₁.toks+1}) a5.typeIs slot_tuple_getitem.lookup
  (getItem_tuple_from (a:=1) (u:=s₁.toks) a5 (Heap.IsSliceOf.new ..) (bE _) (by simpa using hp) ?_ ?_)
 ·exact(cy.zr (k:=s₁.toks+1) (bO.drop 1)).step aM (by exact a0)
 ·have:=of_decide_eq_true eH;erw[jh,ar,sizeLine_eq];exact cz ‹_› rfl
end
end
end Mine
end
section
open PySem PySem.W PySem.Calls PyProof.Rows PySem.SeqAt
namespace Mine
noncomputable section
section
variable{cx:bV}{A:Around}{G:Addr→Obj→Prop}{W W':a3}{fm fm':bS}{st st':St}{s:Shared}{xs:List X}{us:List Value}{i j:Int}{a:V}{aS:List V}
noncomputable def bv:gB→Value
 | .len=>.builtin "len"| .abs=>.builtin "abs"| .min=>.builtin "min"| .max=>.builtin "max"| .sum=>.builtin "sum"| .tuple=>.type "tuple"| .list=>.type "list"| .sorted=>.builtin "sorted"
 | .divmod=>.builtin "divmod"| .int=>.type "int"| .isInt=>.builtin "isinstance"| .isBool _=>.builtin "isinstance"
noncomputable def vn(P:Params)(x:String×Value):Bool:=(nsIn (H.c7 P) mainGlobals (Str.ofString x.1)).any LH&&U (bootBuiltins (Str.ofString x.1)=I x.2)&&U (Str.ofString x.1≠"__name__")
theorem O6(P:Params):(n1.all fun x=>vn P (x.1,bv x.2))=true:=by kernel_rfl
theorem O7(P:Params):([("isinstance",.builtin "isinstance"),("int",.type "int"),("bool",.type "bool")].all (vn P))=true:=by kernel_rfl
theorem sN(aQ:cH w ae cb cm)(R:Rel w ae G W fm st s)(hf:dw cx fm){x:Str}(aC:cx.gl x=true){v:Value}(a5:∃y,x=Str.ofString y∧vn w.params (y,v)=true){pos:Pos}{Q:Value→Shared→Prop}(h:Q v s):
  wpAny (model a4 w) A (eval (.Name x pos) fm.env) Q bL s:=by
 obtain⟨y,rfl,a5⟩:=a5;refine bC (fun a5 aq=>?_) (cC.mp a5);refine bC (fun aa ab=>?_) (cC.mp a5);exact NV aQ R hf aC (mg_none_of aQ.K aQ.g (EW aa)) (of_decide_eq_true aq) (of_decide_eq_true ab) h
theorem Fm(aQ:cH w ae cb cm)(R:Rel w ae G W fm st s)(hf:dw cx fm){x:Str}(aC:cx.gl x=true){b:gB}(a5:k5 x n1=I b){pos:Pos}{Q:Value→Shared→Prop}(h:Q (bv b) s):
  wpAny (model a4 w) A (eval (.Name x pos) fm.env) Q bL s:=by
 obtain⟨y,aV,rfl⟩:=y6 a5;exact sN aQ R hf aC ⟨y,rfl,h2.mp (O6 w.params) _ aV⟩ h
theorem vo(ax:A.handled=J){l:Addr}{vs:List Value}{ns:List Int}{Q:Value→Shared→Prop}(ar:s.heap.IsList l vs.toArray)(aw:IntsAre vs ns)
  (h:∀h' tk t',(∀b o,s.heap.get? b=I o→h'.get? b=I o)→Q (.int ns.sum t') {s with heap:=h',toks:=tk}):wpAny (model a4 w) A (call (.builtin "sum") [.ref l]) Q bL s:=by
 refine f7 (aw.allInts.items) fun xs e=>?_;have aA:=aw.numsOf;have au:vs=(intItems xs).toList:=by erw[←e]
 rw[au,nums_intItems]at aA;rw[e]at ar;refine sum_intListG ax ar fun h' tk t' ai=>?_;erw[preSum_eq,uw (by simp),aA];exact h h' tk t' ai
theorem O8{xs:List V}:∀{i:Int},pg xs=I i→∃ns,h4 xs=I ns∧ns.sum=i:=by
 induction xs with
 |nil=>intro i h;cases h;exact⟨[],rfl,rfl⟩
 |cons x r aG=>
  intro i h
  induction x using V.casesOn with
  |int a=>obtain⟨j,aa,rfl⟩:=omap (show(pg r).map (a+ ·)=I i from h);obtain⟨ns,e,rfl⟩:=aG aa;exact⟨a::ns,congrArg (LK (a:: ·)) e,xO⟩
  |_=>cases h
theorem O9(a:Int):(if a<0 then-a else a)=(a.natAbs:Int):=by
 refine bZ (fun h:a<0=>?_) (fun h=>?_)
 ·erw[if_pos h];exact(LB (jO h)).symm
 ·erw[if_neg h];exact(xJ (ez.mp h)).symm
theorem cM.O'{us:List Value}(h:cM W [] us):us=[]:=by
 rcases us with _|⟨u,r⟩
 ·rfl
 ·exact h.elim
theorem cM.one{x:X}{us:List Value}(h:cM W [x] us):∃u,us=[u]∧b8 W x u:=by
 rcases us with _|⟨u,r⟩
 ·exact h.elim
 ·cases h.2.O';exact⟨u,rfl,h.1⟩
theorem cM.two{x y:X}{us:List Value}(h:cM W [x,y] us):∃u v,us=[u,v]∧b8 W x u∧b8 W y v:=by
 rcases us with _|⟨u,r⟩
 ·exact h.elim
 ·obtain⟨v,rfl,ab⟩:=cM.one h.2;exact⟨u,v,rfl,h.1,ab⟩
theorem zz{aS:List V}{vs:List Value}(r:b5 W aS vs)(ar:aS.length≤100000){k:Nat}(ai:100000≤k):vs.toArray.size≤k:=bR (eQ r.1) (bR ar ai)
theorem Fn{aS:List V}{vs:List Value}(r:b5 W aS vs)(ar:aS.length≤100000):(vs.toArray.size:Int)<2^63:=mB (nK.mpr (zz r ar (bE _))) (by decide)
theorem zA{x:X}{r:List X}{l:List V}(h:vals st (x::r)=I l):∃v q,st.val x=I v∧vals st r=I q∧l=v::q:=by refine eA fun cF=>?_;obtain⟨v,aJ,h⟩:=aU (show(st.val x).bind _=I l from h);obtain⟨q,aE,e⟩:=omap h;refine cF ?_;exact⟨v,q,aJ,aE,e.symm⟩
theorem Pa{xs:List X}(h:vals st xs=I []):xs=[]:=by
 induction xs using bY with
 |nil=>rfl
 |cons x r=>obtain⟨v,q,_,_,e⟩:=zA h;cases e
theorem qY{xs:List X}{a:V}(h:vals st xs=I [a]):∃x,xs=[x]∧st.val x=I a:=by
 induction xs using bY with
 |nil=>cases h
 |cons x r=>obtain⟨v,q,aJ,aE,e⟩:=zA h;cases e;erw[Pa aE];exact⟨x,rfl,aJ⟩
theorem Pb{xs:List X}{a b:V}(h:vals st xs=I [a,b]):∃x y,xs=[x,y]∧st.val x=I a∧st.val y=I b:=by
 induction xs using bY with
 |nil=>cases h
 |cons x r=>obtain⟨v,q,aJ,aE,e⟩:=zA h;cases e;obtain⟨y,rfl,aV⟩:=qY aE;exact⟨x,y,rfl,aJ,aV⟩
theorem oi{vs:List V}{a:V}(h:v1 vs=I a):vs=[a]:=by
 rcases vs with _|⟨x,_|⟨y,r⟩⟩
 ·cases h
 ·cases h;rfl
 ·cases h
theorem Pc{vs:List V}{p:V×V}(h:v2 vs=I p):vs=[p.1,p.2]:=by
 rcases vs with _|⟨x,_|⟨y,_|⟨z,r⟩⟩⟩
 ·cases h
 ·cases h
 ·cases Option.some.inj h;rfl
 ·cases h
theorem zB{vs:List V}{p:Int×Int}(h:dt vs=I p):vs=[.int p.1,.int p.2]:=by obtain⟨q,aa,ab⟩:=aU h;obtain⟨a,aq,ba⟩:=aU ab;obtain⟨b,b0,rfl⟩:=omap ba;erw[Pc aa,kC aq,kC b0]
theorem Pd(a8:cM W xs us)(aJ:vals st xs=I [.int i]):∃t,us=[.int i t]:=by obtain⟨x,rfl,e⟩:=qY aJ;obtain⟨u,rfl,eV⟩:=a8.one;obtain⟨t,rfl⟩:=l8 e rfl eV;exact⟨t,rfl⟩
theorem zC(a8:cM W xs us)(aJ:vals st xs=I [.int i,.int j]):∃t t',us=[.int i t,.int j t']:=by refine eA fun cF=>?_;obtain⟨x,y,rfl,e,e4⟩:=Pb aJ;obtain⟨u,v,rfl,eV,bO⟩:=a8.two;obtain⟨t,rfl⟩:=l8 e rfl eV;obtain⟨t',rfl⟩:=l8 e4 rfl bO;refine cF ?_;exact⟨t,t',rfl⟩
theorem zD{α:Type}{xs:List V}{a b:α}(h:uR xs a=I b):xs.length≤100000∧b=a:=by refine bC (fun hf h=>?_) (c0 h);exact⟨dO hf,(Option.some.inj h).symm⟩
theorem zE(R:Rel w ae G W fm st s)(a8:cM W xs us)(aJ:vals st xs=I [a])(aL:kr a=I aS):∃l T vs k,us=[.ref l]∧s.heap.get? l=I {cls:=.type T,data:=.seq (mF vs) k}∧b5 W aS vs∧((T="list"∧a= .lst aS)∨(T="tuple"∧a= .tup aS)):=by
 obtain⟨x,rfl,e⟩:=qY aJ;obtain⟨u,rfl,eV⟩:=a8.one
 rcases y9 aL with rfl|rfl
 ·obtain⟨vs,l,rfl,⟨k,p⟩,bO⟩:=n9 R eV e;exact⟨l,_,vs,k,rfl,p,bO,.inl ⟨rfl,rfl⟩⟩
 ·cases kB e (fun ag e=>by cases e);obtain⟨vs,l,k,rfl,ay,bO⟩:=n7 R eV;exact⟨l,_,vs,k,rfl,ay,bO,.inr ⟨rfl,rfl⟩⟩
theorem Fo(R:Rel w ae G W fm st s)(a8:cM W xs us)(aJ:vals st xs=I [a])(aL:kq a=I aS):∃l vs,us=[.ref l]∧s.heap.PlainList l (mF vs)∧b5 W aS vs:=by obtain rfl:=qP aL;obtain⟨x,rfl,e⟩:=qY aJ;obtain⟨u,rfl,eV⟩:=a8.one;obtain⟨vs,l,rfl,p,bO⟩:=n9 R eV e;exact⟨l,vs,rfl,p,bO⟩
noncomputable def Fp:gB→Bool
 | .isInt=>false
 | .isBool _=>false
 |_=>true
theorem Pe(ax:d1 n A)(R:Rel w ae G W fm st s){xs:List X}{us:List Value}(r:cM W xs us){b:gB}{vs:List V}{z:V}(aJ:vals st xs=I vs)(bw:sd b vs=I z)(aa:Fp b=true):
  wpAny (model a4 w) A (call (bv b) us) (d9 w ae G W fm s st (.v z)) bL s:=by
 induction b using gB.casesOn with
 |len=>
  obtain⟨a,aB,bw⟩:=aU bw;obtain⟨aS,aL,bw⟩:=aU bw;obtain⟨ar,rfl⟩:=zD bw;rw[oi aB]at aJ;obtain⟨l,T,qZ,k,rfl,e,bO,d'⟩:=zE R r aJ aL
  rcases d' with⟨rfl,_⟩|⟨rfl,_⟩
  ·refine Calls.call_len_list (Heap.PlainList.isList ⟨k,e⟩) (Fn bO ar) ?_;erw[jh,bO.1];exact .self R.toks (.int _ _) rfl
  ·refine len_tuple (items:=qZ.toArray) ⟨_,e,rfl,_,rfl⟩ (Fn bO ar) ?_;erw[jh,bO.1];exact .self R.toks (.int _ _) rfl
 |abs=>obtain⟨a,aB,bw⟩:=aU bw;obtain⟨i,aw,rfl⟩:=omap bw;rw[oi aB,kC aw]at aJ;obtain⟨t,rfl⟩:=Pd r aJ;refine call_abs_int fun u tk=>?_;erw[O9];exact .self R.toks (.int _ _) rfl
 |min=>
  obtain⟨p,hp,rfl⟩:=omap bw;rw[zB hp]at aJ;obtain⟨t,t',rfl⟩:=zC r aJ;refine min_two_ints ax.h fun h' tk ai=>?_
  split
  ·exact .self (R.keep ai) (.int _ _) rfl
  ·exact .self (R.keep ai) (.int _ _) rfl
 |max=>
  obtain⟨p,hp,rfl⟩:=omap bw;rw[zB hp]at aJ;obtain⟨t,t',rfl⟩:=zC r aJ;refine max_two_ints ax.h fun h' tk ai=>?_
  split
  ·exact .self (R.keep ai) (.int _ _) rfl
  ·exact .self (R.keep ai) (.int _ _) rfl
 |sum=>obtain⟨a,aB,bw⟩:=aU bw;obtain⟨aS,aL,bw⟩:=aU bw;obtain⟨i,aw,rfl⟩:=omap bw;rw[oi aB]at aJ;obtain⟨l,qZ,rfl,p,bO⟩:=Fo R r aJ aL;obtain⟨ns,m2,rfl⟩:=O8 aw;exact vo ax.h p.isList (ints_of m2 bO) fun h' tk t' ai=>.self (R.keep ai) (.int _ _) rfl
 |tuple=>obtain⟨a,aB,bw⟩:=aU bw;obtain⟨aS,aL,bw⟩:=aU bw;obtain⟨ar,rfl⟩:=zD bw;rw[oi aB]at aJ;obtain⟨l,qZ,rfl,p,bO⟩:=Fo R r aJ aL;refine call_tuple_list p.isList (fun h' ai=>?_) (zz bO ar (by decide));exact((R.keep (k:=s.toks) ai).zr (k:=s.toks) bO).step .rfl (by rfl)
 |list=>obtain⟨a,aB,bw⟩:=aU bw;obtain⟨aS,aL,bw⟩:=aU bw;obtain⟨ar,rfl⟩:=zD bw;rw[oi aB]at aJ;obtain⟨l,T,qZ,k,rfl,e,bO,d'⟩:=zE R r aJ aL;refine call_list_seq l (d'.elim (fun h=>.inl h.1) fun h=>.inr h.1) e rfl rfl (fun h' dr ai e=>?_) (zz bO ar (by decide));exact⟨_,a3.gE,(R.keep (k:=s.toks) ai).mT (R.h7 (bE _)) e,.lst (.inr ⟨rfl,rfl⟩) ⟨dr,rfl⟩ bO.1 (bO.mono a3.gE).2,rfl⟩
 |sorted=>cases bw
 |divmod=>
  obtain⟨p,hp,bw⟩:=aU bw
  ·obtain⟨bf,bw⟩:=hu bw;cases bw;rw[zB hp]at aJ;obtain⟨t,t',rfl⟩:=zC r aJ;obtain⟨m,hm,_⟩:=R.ns;refine divmod_N (R.fr hm) R.news (fun e=>bf (.inl e)) (fun h' pC hz=>?_) (.inl (noPylong (Ez fun e=>bf (.inr e))));exact⟨_,a3.gE,(R.yY hm (k:=s.toks+1+1) pC hz (bE _)),.tup (vs:=[_,_]) (.inr ⟨rfl,rfl⟩) ⟨0,rfl⟩ rfl ((b5.cons (.int _ _) (.cons (.int _ _) .nil)):b5 _ [_,_] [_,_]).2,rfl⟩
 |int=>obtain⟨a,aB,bw⟩:=aU bw;obtain⟨b,i4,rfl⟩:=omap bw;rw[oi aB,y8 i4]at aJ;obtain⟨x,rfl,e⟩:=qY aJ;obtain⟨u,rfl,eV⟩:=r.one;cases kB e (fun ag e=>by cases e);erw[pA eV];exact call_int_bool (.self R.toks (.int _ _) rfl)
 |isInt=>cases aa
 |isBool=>cases aa
end
end
end Mine
end
section
open PySem PySem.W PySem.Calls PyProof.Rows PySem.SeqAt
namespace Mine
noncomputable section
theorem Pf{vs:List Value}:∀{a6:List (Int×Value)},vs.length=a6.length→(∀(j:Nat) (v:Value),vs[j]? =I v→∃k x,a6[j]? =I (k,x)∧(nP a4 w).is k v=true)→IntsAre vs (a6.map (·.1)):=by
 induction vs with
 |nil=>intro a6 ar _;cases o4 ar.symm;exact .nil
 |cons v r aG=>
  intro a6 ar h
  rcases a6 with _|⟨y,q⟩
  ·cases ar
  ·obtain⟨jt,pF,e,ai⟩:=h 0 v rfl;cases Option.some.inj e;obtain⟨t,rfl⟩:=Value.isInt_shape ai;exact .cons _ _ (aG (Nat.succ.inj ar) fun j v e=>h (j+1) v e)
theorem Pg{W:a3}{vs:List Value}{ns:List Int}(h:IntsAre vs ns):b5 W (ns.map .int) vs:=by
 induction h with
 |nil=>exact .nil
 |cons n t r aG=>exact .cons (.int n t) aG
section
variable{cx:bV}{A:Around}{G:Addr→Obj→Prop}{W W':a3}{fm fm':bS}{st st':St}{s:Shared}
theorem zF(ax:d1 n A)(R:Rel w ae G W fm st s){i:Nat}{kvs:List (Int×V)}{u:Value}(r:b8 W (.cell i) u)(ah:st.heap[i]? =I (.cw kvs))(vp:kvs.length<64):
  wpAny (model a4 w) A (call (.builtin "sorted") [u]) (d9 w ae G W fm s st (.v (.lst ((sortI (kvs.map (·.1))).map .int)))) bL s:=by
 obtain⟨q,aE,rfl⟩:=r;obtain⟨⟨e,ns⟩,a6,d,ju,mc⟩:=R.cells _ _ _ ah aE;erw[e];obtain⟨m,hm,_⟩:=R.ns;obtain⟨ep,md⟩:=d.dictAt;have ar:a6.length=kvs.length:=(bF ..).symm.trans ((congrArg xN ju).trans (bF ..));refine kdu_sorted (kdl_dict (knd:=nP a4 w) (kvs:=a6) (ep:=ep) ns) ax.h (R.fr hm) R.news md (by erw[ar,sizeLine_eq];exact bR (c' vp) (by decide)) fun D h' tk vs pC hz aM hlen dM=>?_;have aZ:=R.El (k:=tk) hm pC hz fun p hp=>.tail _ hp;have off:Off G W fm st D:=R.Ee (by
  rcases aK:s.heap.get? D with _|o
  ·rfl
  ·exact absurd (aM _ (yX.mpr ⟨(hz _ (.head _)).2.1,(hz _ (.head _)).2.2,aK⟩)) (qu _))
 have zG:h'.get? D=I (seqObj "list" vs.toArray 0):=(hz _ (.head _)).1;refine wpAny_call_entry slot_list_sort ⟨_,zG,rfl⟩ entry_list_sort (list_sort_tree (s:={s with heap:=h',toks:=tk}) zG (Pf hlen dM) (hlen.trans ar▸vp) fun out Ph a1 a2 pG=>⟨_,rfl,?_⟩) (args_list_sort _);obtain⟨ay,Fq⟩:=sortedHeap_at (out:=out) zG;have cy:Rel w ae G W fm st {s with heap:=sortedHeap h' D vs out,toks:=tk}:=aZ.u6 (k:=tk) fun b o bf ai=>(sortedHeap_old (off.ne ai) (Heap.lt_size bf)).trans bf;have hb:Ph=sortI (kvs.map (·.1)):=by erw[←ju];exact lks_uniq (a2.trans (sortI_perm _).symm) pG (DW _)
 have bO:b5 W ((sortI (kvs.map (·.1))).map .int) out.toList:=by erw[←hb];exact Pg a1
 exact⟨_,a3.gE,(cy.mT off Fq),.lst (vs:=out.toList) (.inr ⟨rfl,rfl⟩) ⟨ay,by erw[Z7]⟩ bO.1 (bO.mono a3.gE).2,rfl⟩
theorem zH{es:List Expr}{pos:Pos}(h:∀e,e∈es→bj w ae C n cx e){bg:az}(ah:dv cx es=I bg){A:Around}(ax:d1 n A){G W fm st s xs st'}(hf:dw cx fm)(R:Rel w ae G W fm st s)(aN:dq C bg st=I (xs,st')){f:Value}{Q:Value→Shared→Prop}
  (bf:(∃i,f= .builtin i)∨∃i,f= .type i) (aE:∀us W' s',W.le W'→Rel w ae G W' fm st' s'→s'.os=s.os→cM W' xs us→wpAny (model a4 w) A (call f us) Q bL s'):
  wpAny (model a4 w) A (callWith pos f [] (backTo pos (starEach es fm.env)) []) Q bL s:=by
 have Fs:wpAny (model a4 w) A (evalArgs f true (backTo pos (starEach es fm.env)) []) (fun a s₁=>wpAny (model a4 w) A (call f ([]++a.pos) a.kw) Q bL s₁) bL s:=by
  induction es using bY with
  |nil=>cases ah;cases aN;exact evalArgs_nil3 (aE [] W s .rfl R rfl trivial)
  |cons e r=>obtain⟨bx,bN,ca,_,_⟩:=oa ah;have:=qV (zv (pos:=pos) h ah ax hf R aN) fun us s' W1 aM aZ a8 a0=>aE us W1 s' aM aZ a0 a8;rw[lh ca]at this⊢;exact evalArgs_plain this
 rcases bf with⟨i,rfl⟩|⟨i,rfl⟩
 ·exact callWith_builtin (qW ah) Fs
 ·exact PyProof.Rows.callWith_type (qW ah) Fs
theorem Ft(b:gB):(∃i,bv b= .builtin i)∨∃i,bv b= .type i:=by cases b<;>first|exact .inl ⟨_,rfl⟩|exact .inr ⟨_,rfl⟩
theorem bi_not:(n1.all fun x=>Fp x.2)=true:=rfl
theorem Pj{b:gB}{xs:List X}{r:X×St}(h:hP b st xs=I r):b= .sorted∨((vals st xs).bind fun vs=>(sd b vs).map fun r=>(X.v r,st))=I r:=by cases b<;>first|exact .inl rfl|exact .inr h
theorem Pk(aQ:cH w ae cb cm){f:Str}{bq p:Pos}{es:List Expr}{b:gB}(h:∀e,e∈es→bj w ae C n cx e)(aC:cx.gl f=true)(bf:k5 f n1=I b){bg:az}(ah:dv cx es=I bg):e5 w ae C n cx (.Call (.Name f bq) es [] p) (.bi b bg):=by
 intro A ax G W fm st s v st' hf R aN;obtain⟨xs,s1,ex,aa⟩:=b2 (show aY (dq C bg st) _=I (v,st')from aN);refine Call_ (Fm aQ R hf aC bf (zH h ah ax hf R ex (Ft b) fun us W1 s' aM aZ a0 a8=>?_));clear aN ex;refine eF (Pj aa) (fun aL=>?_) (fun ab=>?_)
 ·subst aL;obtain⟨i,aw,ab⟩:=aU (show((xs.head?).bind jV).bind _=I (v,st')from aa);obtain⟨kvs,ai,aq⟩:=aU ab;obtain⟨⟨ar,vp⟩,ba⟩:=c0 aq;clear aa ab aq
  rcases xs with _|⟨x,_|⟨y,r⟩⟩
  ·cases ar
  ·obtain rfl:=mX (show jV x=I i from aw);cases ba;obtain⟨u,rfl,eV⟩:=a8.one;exact sel (zF ax aZ eV (Em ai) vp) aM a0
  ·cases ar
 ·obtain⟨y,aV,_⟩:=y6 bf;obtain⟨vs,m3,ab⟩:=aU ab;obtain⟨r,av,aq⟩:=omap ab;cases aq;exact sel (Pe ax aZ a8 m3 av (h2.mp bi_not _ aV)) aM a0
theorem Pl{vs:List V}{z:V}(h:sd .isInt vs=I z):∃i,vs=[.int i]∧z= .bool true:=by obtain⟨a,aa,ab⟩:=aU (show(v1 vs).bind _=I z from h);obtain⟨i,aq,rfl⟩:=omap ab;erw[oi aa,kC aq];exact⟨i,rfl,rfl⟩
theorem Pm{vs:List V}{z:V}(h:sd .isBool vs=I z):∃i,vs=[.int i]∧z= .bool false:=by obtain⟨a,aa,ab⟩:=aU (show(v1 vs).bind _=I z from h);obtain⟨i,aq,rfl⟩:=omap ab;erw[oi aa,kC aq];exact⟨i,rfl,rfl⟩
theorem Pn(aQ:cH w ae cb cm){f t:Str}{bq c9 p:Pos}{e:Expr}{b:gB}(h:bj w ae C n cx e)(aC:cx.gl f=true)(me:dc f "isinstance"=true)(Fu:cx.gl t=true)(bf:(dc t "int"=true∧b= .isInt)∨(dc t "bool"=true∧b= .isBool)){aH:ao}(ah:aW cx e=I aH):
  e5 w ae C n cx (.Call (.Name f bq) [e,.Name t c9] [] p) (.bi b (.cons aH .nil)):=by
 intro A ax G W fm st s v st' hf R aN;have o8:=fun{x}=>h2.mp (O7 w.params) x;obtain⟨xs,s1,ex,aa⟩:=b2 (show aY (dq C (.cons aH .nil) st) _=I (v,st')from aN);obtain⟨x,s2,ee,ab⟩:=b2 (show aY (aj C aH st) _=I (xs,s1)from ex);cases ab;refine Call_ (sN aQ R hf aC (v:=.builtin "isinstance") ⟨"isinstance",beq_iff_eq.mp me,o8 (.head _)⟩ ?_);refine callWith_builtin1 ?_ (lh ah) rfl;refine args_cons (dm (h ah ax hf R ee) fun u s₁ W1 aM aZ a8 a0=>args_cons ?_ rfl) (lh ah);have one:∀{i:Int},vals s2 [x]=I [.int i]→x= .v (.int i):=fun m3=>by obtain⟨pF,e,au⟩:=qY m3;cases e;exact kB au (fun ag e=>by cases e)
 rcases bf with⟨a5,rfl⟩|⟨a5,rfl⟩
 ·obtain⟨vs,m3,aq⟩:=aU (show(vals s2 [x]).bind _=I (v,st')from aa);obtain⟨z,bw,ba⟩:=omap aq;obtain⟨i,rfl,rfl⟩:=Pl bw;cases ba;obtain rfl:=one m3;obtain⟨t,rfl⟩:=hQ a8;exact sN aQ aZ hf Fu (v:=.type "int") ⟨"int",beq_iff_eq.mp a5,o8 (.tail _ (.head _))⟩ (args_nil (IsiPair.int_int (d9.step aM a0 (.self aZ (.bool _) rfl))))
 ·obtain⟨vs,m3,aq⟩:=aU (show(vals s2 [x]).bind _=I (v,st')from aa);obtain⟨z,bw,ba⟩:=omap aq;obtain⟨i,rfl,rfl⟩:=Pm bw;cases ba;obtain rfl:=one m3;obtain⟨t,rfl⟩:=hQ a8;exact sN aQ aZ hf Fu (v:=.type "bool") ⟨"bool",beq_iff_eq.mp a5,o8 (.tail _ (.tail _ (.head _)))⟩ (args_nil (IsiPair.int_bool (d9.step aM a0 (.self aZ.toks (.bool _) rfl))))
end
end
end Mine
end
section
open PySem PySem.W PySem.Calls PyProof.Rows PySem.SeqAt
namespace Mine
noncomputable section
section
variable{cx:bV}{A:Around}{G:Addr→Obj→Prop}{W W':a3}{fm fm':bS}{st st':St}{s:Shared}
theorem Fv{cx:bV}{o:Expr}{po:ao}(h:aW cx o=I po)(attr:Str)(env:Env)(whole:Sem Value):attributeBase o attr env whole=whole:=by
 induction o using Expr.casesOn with
 |Call f as a6 p=>
  induction f using Expr.casesOn with
  |Name id q=>
   induction as using bY with
   |cons=>rfl
   |nil=>
    induction a6 using bY with
    |cons=>rfl
    |nil=>
     have:(id !=("super":Str))=true:=by
      erw[bne_iff_ne];rintro rfl;have ay:k5 (Str.ofString "super") n1=J:=by kernel_rfl
      have au:qH.findIdx? (dc (Str.ofString "super"))=J:=by kernel_rfl
      have bo:qI.findIdx? (dc (Str.ofString "super"))=J:=by kernel_rfl
      have cg:dc (Str.ofString "super") "isinstance"=false:=by kernel_rfl
      have h:=h;refine bC (fun ag h=>?_) (hu h);rw[if_neg (by erw[cg];decide)]at h;obtain⟨bg,_,h⟩:=aU h;unfold sj at h;replace h:=bo▸(au▸(ay▸h));cases h
     exact if_pos (by erw[this];rfl)
  |_=>rfl
 |_=>rfl
theorem Po{pos:Pos}{env:Env}{es:List Expr}{bg:az}(h:dv cx es=I bg):(backTo pos (starEach es env)).all (fun x=> !x.1)=true:=by
 have:=qW (pos:=pos) (env:=env) h;rw[List.any_eq_false]at this;rw[h2];intro x aC
 simpa using this x aC
theorem sO{E:Value→Shared→Prop}{env:Env}{o:Expr}{name:Str}{apos pos:Pos}{args:List Expr}{po:ao}{bg:az}{Q:Value→Shared→Prop}(aO:aW cx o=I po)(fu:dv cx args=I bg)(ar:args.length<30)(jv:(apos.endLine==pos.line)=true)
  (h:wpAny (model a4 w) A (eval o env) (fun jw s₁=>wpAny (model a4 w) A (getMethod jw name (do return(←importBound o env).getD true)) (fun zI s₂=>wpAny (model a4 w) A (callWith pos zI.1 zI.2 (backTo pos (starEach args env)) []) Q E s₂) E s₁) E s):
  wpAny (model a4 w) A (eval (.Call (.Attribute o name apos) args [] pos) env) Q E s:=by
 erw[arm_eval_Call,Fv aO];refine wpAny_bind (wpAny_mono h (fun jw s₁ h₁=>?_) fun ag ag e=>e);refine wpAny_bind (wpAny_standAt ?_);have Pp:methodCallForm (args.length+([]:List Keyword).length) (backTo pos (starEach args env)) (backToKw pos (keywordEach [] env))=true:=by unfold methodCallForm;erw[Po fu];exact decide_eq_true (p:=args.length+0+0<30) ar
 have Pq:methodCallPos true o env apos pos=pure pos:=by unfold methodCallPos;simp[jv]
 unfold methodCall;erw[Pp];refine wpAny_bind (wpAny_holding (wpAny_mono ?_ (fun ag ag x=>x) fun ag ag x=>x));refine wpAny_mono h₁ (fun zI s₂ h₂=>?_) fun ag ag x=>x;exact wpAny_bind (wpAny_of_eq Pq h₂)
inductive Fw(w:World)(ae:Heap)(G:Addr→Obj→Prop)(W:a3)(fm:bS)(s:Shared)(st':St)(v:V)(u:Value):Prop where
 |mk (W':a3) (l:W.le W') (R:Rel w ae G W' fm st' s) (r:dd W' v u):Fw w ae G W fm s st' v u
theorem Pr(R:Rel w ae G W fm st s){x:X}{u:Value}(r:b8 W x u){v:V}(h:st.freeze x=I (v,st')):Fw w ae G W fm s st' v u:=by
 induction x using X.casesOn with
 |v a=>cases h;exact⟨W,.rfl,R,r⟩
 |cell i=>obtain⟨xs,ah,aa⟩:=aU (show(st.lst i).bind _=I (v,st')from h);refine bC (fun bf ab=>?_) (c0 aa);cases ab;obtain⟨q,aE,rfl⟩:=r;obtain⟨o,l,de,bO⟩:=R.NL (n8 ah) aE;exact⟨_,l,de,bO⟩
inductive Fx(W:a3)(h:Heap)(i:Nat)(xs:List V)(u:Value):Prop where
 |mk (q:Addr×Addr) (aE:W.p[i]? =I q) (e:u= .ref q.2) (au:q.1=q.2) (vs:List Value) (p:h.PlainList q.2 vs.toArray) (r:b5 W xs vs):Fx W h i xs u
theorem Fy(R:Rel w ae G W fm st s){i:Nat}{u:Value}(r:b8 W (.cell i) u){xs:List V}(h:st.lst i=I xs):Fx W s.heap i xs u:=by refine eA fun cF=>?_;obtain⟨q,aE,rfl⟩:=r;obtain⟨e,vs,p,bO⟩:=R.cells _ _ _ (n8 h) aE;refine cF ?_;exact⟨q,aE,by erw[e],e,vs,p,bO⟩
inductive Fz(w:World)(W:a3)(h:Heap)(i:Nat)(kvs:List (Int×V))(u:Value):Prop where
 |mk (q:Addr×Addr) (aE:W.p[i]? =I q) (e:u= .ref q.2) (ns:(q.2==sysModules)=false) (a6:List (Int×Value)) (d:h.DictOf (intKind a4 w) q.2 a6) (iC:ew id (dd W) kvs a6):Fz w W h i kvs u
theorem vq(R:Rel w ae G W fm st s){i:Nat}{u:Value}(r:b8 W (.cell i) u){kvs:List (Int×V)}(h:st.jn i=I kvs):Fz w W s.heap i kvs u:=by refine eA fun cF=>?_;obtain⟨q,aE,rfl⟩:=r;obtain⟨⟨e,ns⟩,a6,d,ju,mc⟩:=R.cells _ _ _ (Em h) aE;refine cF ?_;exact⟨q,aE,by erw[e],ns,a6,d,ew.zj (f:=id) ju mc⟩
theorem FA{h:Heap}{l:Addr}{af:Array Value}(p:h.PlainList l af):∀a,Value.ref l= .ref a→∃o,h.get? a=I o∧o.dict=J:=by rintro a e;cases e;refine f7 (p) fun k p=>?_;exact⟨_,p,rfl⟩
theorem sP{a:Expr}{bx:ao}(ca:aW cx a=I bx):dv cx [a]=I (.cons bx .nil):=by show(aW cx a).bind _=_;erw[ca];rfl
theorem FC{q gu:Addr×Addr}{i:Nat}{W W':a3}(l:W.le W')(h:W.p[i]? =I q)(h':W'.p[i]? =I gu):gu=q:=Option.some.inj (h'.symm.trans (l4 l.p h))
theorem Pt{o a:Expr}{apos pos:Pos}{po bx:ao}(aO:bj w ae C n cx o)(aB:bj w ae C n cx a)(co:aW cx o=I po)(ca:aW cx a=I bx)(jv:(apos.endLine==pos.line)=true):
  e5 w ae C n cx (.Call (.Attribute o "append" apos) [a] [] pos) (.append po bx):=by
 have cs:=sP ca;intro A ax G W fm st s v st' hf R aN;obtain⟨x,s1,iZ,aa⟩:=b2 (show aY (aj C po st) _=I (v,st')from aN);obtain⟨i,aw,ab⟩:=aU aa;obtain⟨zJ,i5,aq⟩:=aU ab;clear aN aa ab;obtain⟨z,s2,bT,ba⟩:=b2 aq;obtain⟨y,s3,sy,b0⟩:=b2 ba;obtain⟨xs,ah,d2⟩:=aU b0;refine bC (fun eH fk=>?_) (oc d2);clear aq ba b0 d2;cases fk;obtain rfl:=mX aw;refine sO co cs (by simp) jv (dm (aO co ax hf R iZ) fun u s₁ W1 aM aZ a8 a0=>?_);obtain⟨q,aE,rfl,e,Pu,dA,_⟩:=Fy aZ a8 i5;refine getMethod_builtin dA.isList.typeIs PySem.F.plainAttrs_list PySem.F.slot_list_append PySem.F.type_list_append (FA dA) (callWith_builtin (qW cs) ?_);erw[lh ca];refine evalArgs_plain (spliced_cons (dm (aB ca ax hf aZ bT) fun z s₂ cN bt cy b3 cK=>spliced_nil ?_));obtain⟨h9,fa,ek,mZ⟩:=Pr cy b3 sy;have oj:=l4 fa.p (l4 bt.p aE);obtain⟨bo,vs,p,bO⟩:=ek.cells _ _ _ (n8 ah) oj;refine wpAny_list_append_plain p (fun h' dp fL=>?_) ?_
 ·exact⟨h9,(aM.trans bt).trans fa,ek.setC (n8 ah) rfl oj fL ⟨bo,vs++[z],by simpa using dp,bO.append (.cons mZ .nil)⟩,.bB,cK.trans a0⟩
 ·have:=hA eH;erw[jh,bO.1];exact this
theorem Pw{o a:Expr}{apos pos:Pos}{po bx:ao}(aO:bj w ae C n cx o)(aB:bj w ae C n cx a)(co:aW cx o=I po)(ca:aW cx a=I bx)(jv:(apos.endLine==pos.line)=true):
  e5 w ae C n cx (.Call (.Attribute o "extend" apos) [a] [] pos) (.extend po bx):=by
 have cs:=sP ca;intro A ax G W fm st s v st' hf R aN;obtain⟨x,s1,iZ,aa⟩:=b2 (show aY (aj C po st) _=I (v,st')from aN);obtain⟨i,aw,ab⟩:=aU aa;obtain⟨zJ,i5,aq⟩:=aU ab;clear aN aa ab;obtain⟨z,s2,bT,ba⟩:=b2 aq;obtain⟨aS,aV,b0⟩:=aU ba;obtain⟨xs,ah,d2⟩:=aU b0;obtain⟨eH,fk⟩:=oc d2;clear aq ba b0 d2;cases fk;obtain rfl:=mX aw;obtain rfl:=vb aV;refine sO co cs (by simp) jv (dm (aO co ax hf R iZ) fun u s₁ W1 aM aZ a8 a0=>?_);obtain⟨q,aE,rfl,e,Pu,dA,_⟩:=Fy aZ a8 i5;refine getMethod_builtin dA.isList.typeIs PySem.F.plainAttrs_list PySem.F.slot_list_extend PySem.F.type_list_extend (FA dA) (callWith_builtin (qW cs) ?_);erw[lh ca];refine evalArgs_plain (spliced_cons (dm (aB ca ax hf aZ bT) fun z s₂ cN bt cy b3 cK=>spliced_nil ?_));have oj:=l4 bt.p aE;obtain⟨bo,vs,⟨dH,p⟩,bO⟩:=cy.cells _ _ _ (n8 ah) oj;obtain⟨us,l,rfl,⟨ft,ck⟩,eV⟩:=y2 cy b3;have ar:=of_decide_eq_true eH;replace ar:=b4▸ar;refine call_meets PySem.F.slot_list_extend ⟨_,p,rfl⟩ PySem.F.entry_list_extend (PySem.F.args_list_extend_2 _ _)
  (AutoSeq1.list_extend_list_list_0 q.2 vs.toArray dH l us.toArray ft ?_ ?_ ?_) ⟨p,ck,?_⟩
 ·intro hh;have ab:=(cC.mp hh).2;unfold Builtin.List.listTooLong at ab;have:=of_decide_eq_true ab;replace this:=sizeLine_eq▸(eV.1▸(bO.1▸(jh▸(jh▸this))))
  omega
 ·erw[jh,bO.1,sizeLine_eq];omega
 ·erw[jh,jh,bO.1,eV.1,sizeLine_eq];omega
 ·refine⟨cN,aM.trans bt,cy.setC (n8 ah) rfl oj (Heap.SameBut.update ..) ⟨bo,vs++us,?_,bO.append eV⟩,.bB,cK.trans a0⟩;obtain⟨k,ai⟩:=E' (fun x=>x++us.toArray) vs.toArray dH;refine⟨k,?_⟩;erw[Heap.get?_update_self _ p (by erw[ai];rfl),ai];simp
theorem ew.getD{W:a3}{l:List (Int×V)}{di:List (Int×Value)}(h:ew id (dd W) l di)(k:Int){d:V}{zK:Value}(r:dd W d zK):dd W ((Mine.g8 k l).getD d) ((valueAt di k).getD zK):=by
 rcases h.g8 k with⟨x,v,aa,ab,aq⟩|⟨aa,ab⟩
 ·erw[aa,ab];exact aq
 ·erw[aa,ab];exact r
theorem Px{o a:Expr}{apos pos:Pos}{po bx:ao}(aO:bj w ae C n cx o)(aB:bj w ae C n cx a)(co:aW cx o=I po)(ca:aW cx a=I bx)(jv:(apos.endLine==pos.line)=true):
  e5 w ae C n cx (.Call (.Attribute o "get" apos) [a] [] pos) (.qE po bx):=by
 intro A ax G W fm st s v st' hf R aN;obtain⟨x,s1,iZ,aa⟩:=b2 (show aY (aj C po st) _=I (v,st')from aN);obtain⟨i,aw,ab⟩:=aU aa;obtain⟨zJ,i5,aq⟩:=aU ab;clear aN aa ab;obtain⟨z,s2,bT,ba⟩:=b2 aq;obtain⟨k,ai,b0⟩:=aU ba;obtain⟨kvs,ah,d2⟩:=omap b0;clear aq ba b0;cases d2;obtain rfl:=mX aw;obtain rfl:=l9 ai;refine sO co (sP ca) (by simp) jv (dm (aO co ax hf R iZ) fun u s₁ W1 aM aZ a8 a0=>?_);obtain⟨q,aE,rfl,ns,Py,sQ,_⟩:=vq aZ a8 i5;refine getMethod_builtin sQ.typeIs PySem.F.plainAttrs_dict PySem.F.slot_dict_get PySem.F.type_dict_get sQ.mapOf.noDict ?_;erw[lh ca];refine wpAny_dict_get1 (knd:=nP a4 w) ns (dm (aB ca ax hf aZ bT) fun z s₂ cN bt cy b3 cK=>?_);obtain⟨gu,zL,_,_,a6,d,iC⟩:=vq cy ((a8).mono bt) ah;obtain rfl:=FC bt aE zL;obtain⟨t,rfl⟩:=hQ b3;exact⟨k,valueAt a6,by simp[nP,Value.isInt],d.mapOf,cN,aM.trans bt,cy.toks,iC.getD k .bB,cK.trans a0⟩
theorem Pz{o a b:Expr}{apos pos:Pos}{po bx bN:ao}(aO:bj w ae C n cx o)(aB:bj w ae C n cx a)(bf:bj w ae C n cx b)(co:aW cx o=I po)(ca:aW cx a=I bx)(dy:aW cx b=I bN)(jv:(apos.endLine==pos.line)=true):
  e5 w ae C n cx (.Call (.Attribute o "get" apos) [a,b] [] pos) (.pd po bx bN):=by
 have cs:dv cx [a,b]=I (.cons bx (.cons bN .nil)):=by show(aW cx a).bind _=_;erw[ca,Z8,sP dy];rfl
 intro A ax G W fm st s v st' hf R aN;obtain⟨x,s1,iZ,aa⟩:=b2 (show aY (aj C po st) _=I (v,st')from aN);obtain⟨i,aw,ab⟩:=aU aa;obtain⟨zJ,i5,aq⟩:=aU ab;clear aN aa ab;obtain⟨z,s2,bT,ba⟩:=b2 aq;obtain⟨k,ai,b0⟩:=aU ba;obtain⟨y,s3,cU,d2⟩:=b2 b0;obtain⟨zK,hd,fk⟩:=aU d2;obtain⟨kvs,ah,pH⟩:=omap fk;clear aq ba b0 d2 fk;cases pH;obtain rfl:=mX aw;obtain rfl:=l9 ai;obtain rfl:=l' hd;refine sO co cs (by simp) jv (dm (aO co ax hf R iZ) fun u s₁ W1 aM aZ a8 a0=>?_);obtain⟨q,aE,rfl,ns,Py,sQ,_⟩:=vq aZ a8 i5;refine getMethod_builtin sQ.typeIs PySem.F.plainAttrs_dict PySem.F.slot_dict_get PySem.F.type_dict_get sQ.mapOf.noDict ?_;erw[lh ca,lh dy];refine wpAny_dict_get2 (knd:=nP a4 w) ns (dm (aB ca ax hf aZ bT) fun z s₂ cN bt cy b3 cK=>dm (bf dy ax hf cy cU) fun y gO h9 fa ek mZ gd=>?_);obtain⟨gu,zL,_,_,a6,d,iC⟩:=vq ek ((a8).mono (bt.trans fa)) ah;obtain rfl:=FC (bt.trans fa) aE zL;obtain⟨t,rfl⟩:=hQ (b3.mono fa);exact⟨k,valueAt a6,by simp[nP,Value.isInt],d.mapOf,h9,(aM.trans bt).trans fa,ek.toks,iC.getD k mZ,gd.trans (cK.trans a0)⟩
end
end
end Mine
end
section
open PySem PySem.W PySem.Calls PyProof.Rows PySem.SeqAt
namespace Mine
noncomputable section
section
variable{cx:bV}{A:Around}{G:Addr→Obj→Prop}{W W':a3}{fm fm':bS}{st st':St}{s:Shared}
noncomputable abbrev q0:Obj:={cls:=.type "dict",data:=.dict #[]}
theorem FD(aQ:cH w ae cb cm)(R:Rel w ae G W fm st s):(s.heap.objs.size==sysModules)=false:=by refine eA fun cF=>?_;obtain⟨o,es,ep,e,_⟩:=aQ.g;refine cF ?_;have:=Heap.lt_size (R.cD _ _ (R.base _ _ e));rw[beq_eq_false_iff_ne];rintro h;rw[h]at this;exact absurd this (by decide)
theorem PA(aQ:cH w ae cb cm){p:Pos}:e5 w ae C n cx (.Dict [] [] p) .cw:=by intro A ax G W fm st s v st' hf R aN;cases aN;refine wpAny_Dict_empty ?_;have aZ:=R.keep (h':=s.heap.push q0) (k:=s.toks) fun b o e=>Heap.get?_push_of_some _ e;exact⟨_,a3.sM,aZ.n6 (q:=(s.heap.objs.size,s.heap.objs.size)) (R.h7 (bE _)) ⟨⟨rfl,FD aQ R⟩,[],Heap.DictOf.new _,rfl,.nil⟩,⟨_,R.qU,rfl⟩,rfl⟩
noncomputable def nU(cx:bV)(e:Expr):Option ao:=match e with
 | .List es _=>(dv cx es).map ao.jm
 | .Subscript e i _=>if uZ i then(aW cx e).map ao.pb else J
 |e=>aW cx e
theorem PB{e:Expr}{r:List Expr}:mP cx (e::r)=(nU cx e).bind fun e=>(mP cx r).map fun r=>.cons e r:=by
 induction e using Expr.casesOn<;>rfl
theorem PC{k:Option Expr}{a:Nat}(h:keyOf k=I a):∃s i p,k=I (.Constant (.str s) i p)∧jW s=I a:=by
 induction k using gJ with
 |none=>cases h
 |some e=>
  cases e with
  |Constant c i p=>
   induction c using Const.casesOn with
   |str s=>exact⟨s,i,p,rfl,h⟩
   |_=>exact c1 h
  |_=>exact c1 h
inductive pI:List (Option Expr)→List Nat→Prop where
 |nil:pI [] []
 |cons {s:Str} {i:Nat} {p:Pos} {a:Nat} {a6:List (Option Expr)} {eS:List Nat} (h:jW s=I a) (r:pI a6 eS):pI (I (.Constant (.str s) i p)::a6) (a::eS)
theorem PD{a6:List (Option Expr)}:∀{eS:List Nat},keysOf a6=I eS→pI a6 eS:=by
 induction a6 with
 |nil=>intro eS h;cases Option.some.inj (show I []=I eS from h);exact .nil
 |cons k a6 aG=>intro eS h;obtain⟨a,aa,h'⟩:=aU (show(keyOf k).bind _=I eS from h);obtain⟨b,ab,rfl⟩:=omap h';obtain⟨s,i,p,rfl,aq⟩:=PC aa;exact .cons aq (aG ab)
noncomputable def sR(env:Env)(pos:Pos):List (Option Expr)→List Expr→List (Sem Value×Sem Value)
 |some k::a6,v::vs=>(eval k env,do let x←eval v env;standAt pos;pure x)::sR env pos a6 vs
 |_,_=>[]
theorem PE{env:Env}{pos:Pos}{a6:List (Option Expr)}{eS:List Nat}(h:pI a6 eS):∀{vs:List Expr},a6.length=vs.length→(evalEachOpt a6 env).zip ((evalEach vs env).map fun v=>do let x←v;standAt pos;pure x)=(sR env pos a6 vs).map fun p=>(I p.1,p.2):=by
 induction h with
 |nil=>intro vs ar;cases o4 ar.symm;rfl
 |cons _ _ aG=>
  intro vs ar
  rcases vs with _|⟨v,vs⟩
  ·cases ar
  ·exact congrArg (_:: ·) (aG (Nat.succ.inj ar))
theorem pairs_len{env:Env}{pos:Pos}{a6:List (Option Expr)}{eS:List Nat}(h:pI a6 eS):∀{vs:List Expr},a6.length=vs.length→(sR env pos a6 vs).length=eS.length:=by
 induction h with
 |nil=>intro vs _;rfl
 |cons _ _ aG=>
  intro vs ar
  rcases vs with _|⟨v,vs⟩
  ·cases ar
  ·exact congrArg (· +1) (aG (Nat.succ.inj ar))
theorem FE{e:Expr}{r:List Expr}{bg:az}(h:mP cx (e::r)=I bg):∃bx bN,nU cx e=I bx∧mP cx r=I bN∧bg= .cons bx bN:=by rw[PB]at h;obtain⟨a,aB,h'⟩:=aU h;obtain⟨b,bf,e⟩:=omap h';exact⟨a,b,aB,bf,e.symm⟩
inductive FF(C:Calls)(e:ao)(es:az)(st:St)(xs:List X)(st':St):Prop where
 |mk (x:X) (s1:St) (bT:aj C e st=I (x,s1)) (aS:List X) (cU:dq C es s1=I (aS,st')) (h:xs=x::aS):FF C e es st xs st'
theorem zM{e:ao}{es:az}{xs:List X}(h:dq C (.cons e es) st=I (xs,st')):FF C e es st xs st':=by obtain⟨x,s1,bT,aa⟩:=b2 (show aY (aj C e st) _=I (xs,st')from h);obtain⟨aS,s2,cU,ab⟩:=b2 aa;cases ab;exact⟨x,s1,bT,aS,cU,rfl⟩
theorem aaJ{vs:List Expr}:∀{bg:az} {st st':St} {xs:List X},mP cx vs=I bg→dq C bg st=I (xs,st')→xs.length=vs.length:=by
 induction vs with
 |nil=>intro bg st st' xs h e;cases h;cases e;rfl
 |cons v vs aG=>intro bg st st' xs h e;obtain⟨a,b,_,PF,rfl⟩:=FE h;obtain⟨x,s1,_,aS,ee,rfl⟩:=zM e;exact congrArg (· +1) (aG PF ee)
inductive FG(w:World)(ae:Heap)(G:Addr→Obj→Prop)(W:a3)(fm:bS)(s:Shared)(st':St)(xs:List X)(eS:List Nat)(us:List (Value×Value))(s':Shared):Prop where
 |mk (W':a3) (l:W.le W') (R:Rel w ae G W' fm st' s') (o:s'.os=s.os) (kvs:List (Str×Value)) (c:Carries (qt a4 w) us kvs) (e:kvs.map (·.1)=eS.map nm) (r:cM W' xs (kvs.map (·.2))):FG w ae G W fm s st' xs eS us s'
theorem PG{a6:List (Option Expr)}{eS:List Nat}{pos:Pos}(ai:pI a6 eS){A:Around}(ax:d1 n A)(hf:dw cx fm):∀{vs:List Expr} {bg:az},a6.length=vs.length→(∀e,e∈vs→∀aH,nU cx e=I aH→e5 w ae C n cx e aH)→mP cx vs=I bg→∀{W st s xs st'},Rel w ae G W fm st s→dq C bg st=I (xs,st')→wpAny (model a4 w) A (evalPairs (sR fm.env pos a6 vs)) (FG w ae G W fm s st' xs eS) bL s:=by
 induction ai with
 |nil=>intro vs bg ar h ah W st s xs st' R aN;cases o4 ar.symm;cases ah;cases aN;exact evalPairs_nil ⟨_,.rfl,R,rfl,[],trivial,rfl,trivial⟩
 |cons zN _ aG=>
  intro vs bg ar h ah W st s xs st' R aN
  rcases vs with _|⟨v,vs⟩
  ·cases ar
  ·obtain⟨bx,bN,ca,dy,rfl⟩:=FE ah;obtain⟨x,s1,bT,aS,cU,rfl⟩:=zM aN;erw[sF zN];refine evalPairs_cons (wpAny_Constant_str (wpAny_bind (dm (h v (.head _) bx ca _ ax hf R.toks bT) fun u s₁ W1 aM aZ a8 a0=>wpAny_bind (wpAny_standAt (wpAny_pure ?_)))));refine wpAny_mono (aG (Nat.succ.inj ar) (fun e he=>h e (.tail _ he)) dy aZ cU) (fun us s₂ q=>?_) fun ag ag x=>x;obtain⟨cN,bt,cy,cK,kvs,c,ay,au⟩:=q;exact⟨cN,aM.trans bt,cy,cK.trans a0,(nm _,u)::kvs,⟨by simp[qt,Value.isStrOf],rfl,c⟩,congrArg (_:: ·) ay,a8.mono bt,au⟩
theorem PH{a6:List Nat}(h:a6.Nodup)(ai:∀k∈a6,k<61):(a6.map nm).Nodup:=by
 induction a6 with
 |nil=>exact .nil
 |cons k r aG=>refine bC (fun aa ab=>?_) (jg.mp h);refine jg.mpr ⟨fun hm=>?_,aG ab fun k l7=>ai k (.tail _ l7)⟩;obtain⟨j,a',e⟩:=f9.mp hm;exact aa (qR (ai k (.head _)) e.symm▸a')
theorem PI(R:Rel w ae G W fm st s){xs:List X}:∀{us:List Value},cM W xs us→∀x∈xs,iW st.heap.length x:=by
 induction xs with
 |nil=>intro us _ x h;cases h
 |cons x xs aG=>
  intro us r y h
  rcases us with _|⟨u,us⟩
  ·exact r.elim
  ·exact(ec.mp h).elim (fun e=>e▸below R r.1) (aG r.2 y)
theorem PJ{a6:List Nat}{xs:List X}(h:yy a6 xs=true):a6.length=xs.length∧a6.length≤15∧a6≠[]∧a6.Nodup∧∀k∈a6,k<61:=by refine bC (fun h b0=>?_) (cC.mp h);refine bC (fun h ba=>?_) (cC.mp h);refine bC (fun h aq=>?_) (cC.mp h);refine bC (fun aa ab=>?_) (cC.mp h);exact⟨of_decide_eq_true aa,of_decide_eq_true ab,(fun e=>by cases e;cases aq),of_decide_eq_true ba,fun k ai=>of_decide_eq_true (h2.mp b0 k ai)⟩
theorem PK(aQ:cH w ae cb cm){a6:List (Option Expr)}{vs:List Expr}{eS:List Nat}{bg:az}{pos:Pos}(ai:keysOf a6=I eS)(hlen:a6.length=vs.length)(h:∀e,e∈vs→∀aH,nU cx e=I aH→e5 w ae C n cx e aH)(ah:mP cx vs=I bg):
  e5 w ae C n cx (.Dict a6 vs pos) (.e9 eS bg):=by
 intro A ax G W fm st s v st' hf R aN;obtain⟨xs,s1,ex,aa⟩:=b2 (show aY (dq C bg st) _=I (v,st')from aN);refine bC (fun gP ab=>?_) (c0 aa);cases ab;obtain⟨aa,ab,aq,ba,b0⟩:=PJ gP;clear gP;have ai:=PD ai;have iD:=pairs_len (env:=fm.env) (pos:=pos) ai hlen;refine wpAny_Dict_pairs (knd:=qt a4 w) (pairs:=sR fm.env pos a6 vs) (PE ai hlen) (fun e=>aq (o4 (iD.symm.trans (congrArg xN e)))) (iD.symm▸ab) ?_;have off:=R.h7 (a:=s.heap.objs.size) (bE _);have aZ:=(R.keep (h':=s.heap.push q0) (k:=s.toks) fun b o e=>Heap.get?_push_of_some _ e).i2 (E:=[(s.heap.objs.size,q0)]) fun a o hm=>by refine bC (fun ay au=>?_) (Prod.mk.inj (dY.mp hm));have hp:(s.heap.push q0).get? s.heap.objs.size=I q0:=Heap.get?_push_size _ rfl;exact⟨ay▸au▸hp,ay▸off.o,ay▸off.f⟩
 refine wpAny_mono (PG ai ax hf hlen h ah aZ ex) (fun us s' q=>?_) fun ag ag x=>x;obtain⟨W1,aM,cy,a0,kvs,c,ay,au⟩:=q;have FH:=cy.zt (a:=s.heap.objs.size) (o:=q0) (.head _) off.g;have hd:=cy.e3 _ _ (.inr (.head _));refine⟨kvs,c,?_,fun h' qT fL=>?_⟩
 ·exact DictOf.at' (Heap.DictOf.new (knd:=qt a4 w) s.heap) fun o e=>hd.trans ((Heap.get?_push_size _ rfl).symm.trans e)
 ·have ek:=(cy.Fd fun a o hm v e=>by cases (Prod.mk.inj (dY.mp hm)).2;cases e).vk (k:=s'.toks+us.length) FH fL;rw[show merged [] kvs=kvs from(merged_append_of_fresh [] kvs (by erw[nQ,ay];exact PH ba b0)).trans (nQ _)]at qT;refine⟨_,aM.trans a3.sM,ek.n6 (q:=(s.heap.objs.size,s.heap.objs.size)) FH ⟨⟨rfl,FD aQ R⟩,kvs,qT,?_,?_,fun y aV=>(PI ek au y.2 (List.of_mem_zip aV).2).mono (lN _)⟩,⟨_,ek.qU,rfl⟩,a0⟩
  ·erw[ay,show(eS.zip xs).map (fun x=>nm x.1)=((eS.zip xs).map (·.1)).map nm from by erw[jP];rfl,List.map_fst_zip (eQ aa)]
  ·erw[List.map_snd_zip (eQ aa.symm)];exact au.mono a3.sM
end
end
end Mine
end
section
open PySem PySem.W PySem.Calls PyProof.Rows PySem.SeqAt
namespace Mine
noncomputable section
section
variable{cx:bV}{A:Around}{G dJ:Addr→Obj→Prop}{W W' W1:a3}{fm fm':bS}{st st' st1:St}{s:Shared}
noncomputable def vr(W:a3)(h:Heap)(aF:cJ)(fb:V)(v:Value):Prop:=match aF with
 | .one _=>dd W fb v
 | .many _=>∃us vals T,fb= .tup us∧v= .ref T∧h.IsTuple T (mF vals)∧b5 W us vals
noncomputable def vt(aF:cJ)(fb:V):Prop:=match aF with
 | .one _=>True
 | .many _=>∃us,fb= .tup us
structure lj(w:World)(A:Around)(G:Addr→Obj→Prop)(W:a3)(fm:bS)(st:St)(h:Heap)(cc:Addr)(aF:cJ)(target:Expr)(xs:List V)(bq ea wr:List Addr)(P d5:Nat→Value→Heap→Prop)(cR:Nat→Heap→Prop):Prop where
 K:KTurns a4 w A target cc bq wr xs.length P d5 cR
 hB:cR 0 h
 wr:∀b∈wr,b∈ea
 off:∀b∈ea,Off G W fm st b
 bq:∀b∈bq,b∈ea∨(∃o,W.F b o)∨∃o,G b o
 item:∀(i:Nat) v h fb,xs[i]? =I fb→P i v h→(∀a o,W.F a o→h.get? a=I o)→vt aF fb→vr W h aF fb v
 alive:∀i h,cR i h→∀b∈ea,∃o,h.get? b=I o
 self:∀(s:Shared) (Q:Value→Shared→Prop) (E:Value→Shared→Prop),cR 0 s.heap→Q (.ref cc) s→wpAny (model a4 w) A (pyIter (.ref cc)) Q E s
noncomputable def tgt(aF:cJ)(t:Expr):Prop:=match aF with
 | .one _=>∃x p,t= .Name x p
 | .many _=>∃es k p,t= .Tuple es k p
theorem zO{α:Type}{e:Expr}{k:Str→Pos→Option α}{v:α}(h:(match e with| .Name x p=>k x p|_=>J)=I v):∃x p,e= .Name x p∧k x p=I v:=by
 induction e using Expr.casesOn with
 |Name x p=>exact⟨x,p,rfl,h⟩
 |_=>exact c1 h
theorem zP{α:Type}{e:Expr}{k:Str→Pos→Option α}{l:List Expr→Nat→Pos→Option α}{v:α}(h:(match e with| .Name x p=>k x p| .Tuple es c p=>l es c p|_=>J)=I v):(∃x p,e= .Name x p∧k x p=I v)∨∃es c p,e= .Tuple es c p∧l es c p=I v:=by
 induction e using Expr.casesOn with
 |Name x p=>exact .inl ⟨x,p,rfl,h⟩
 |Tuple es c p=>exact .inr ⟨es,c,p,rfl,h⟩
 |_=>exact c1 h
theorem FI{α:Type}{e:Expr}{k:Expr→List Expr→List Keyword→Pos→Option α}{v:α}(h:(match e with| .Call f as a6 p=>k f as a6 p|_=>J)=I v):∃f as a6 p,e= .Call f as a6 p∧k f as a6 p=I v:=by
 induction e using Expr.casesOn with
 |Call f as a6 p=>exact⟨f,as,a6,p,rfl,h⟩
 |_=>exact c1 h
theorem FJ{t:Expr}{aF:cJ}(h:jX cx t=I aF):tgt aF t:=by
 rcases zP h with⟨x,p,rfl,h⟩|⟨es,k,p,rfl,h⟩
 ·obtain⟨i,_,rfl⟩:=omap h;exact⟨_,_,rfl⟩
 ·obtain⟨i,_,rfl⟩:=omap h;exact⟨_,_,_,rfl⟩
theorem zQ{t:Expr}{aF:cJ}(a5:tgt aF t){cc:Addr}{v:Value}{cl:String}(mV:["enumerate","zip","dict_itemiterator","dict_reverseitemiterator","odict_iterator","itertools.zip_longest","itertools.pairwise"].contains cl=false)
  {M:Model} {E:Value→Shared→Prop} {Q:Unit→Shared→Prop} {o:Obj} (aO:s.heap.get? cc=I o) (ah:o.cls= .type cl) (aE:Q () s):wpAny M A (letOwnedTupleGo t (.ref cc) v) Q E s:=by
 induction aF using cJ.casesOn with
 |one i=>obtain⟨x,p,rfl⟩:=a5;exact wpAny_pure aE
 |many is=>
  obtain⟨es,k,p,rfl⟩:=a5;unfold letOwnedTupleGo
  induction v using Value.casesOn with
  |ref a=>
   refine wpAny_bind (wpAny_load aO ?_);erw[ah];generalize o.data=d
   induction d using Data.casesOn with
   |fields vs=>
    dsimp only
    erw[mV,LL,if_neg rR];exact wpAny_pure aE
   |_=>exact wpAny_pure aE
  |_=>exact wpAny_pure aE
theorem pJ{aF:cJ}{h:Heap}{xs:List V}{vs:List Value}{i:Nat}{v:Value}{fb:V}(ex:xs[i]? =I fb)(r:b5 W xs vs)(e:vs.toArray[i]? =I v)(fV:∀a o,W.F a o→h.get? a=I o)(hm:vt aF fb):vr W h aF fb v:=by
 have bO:=r.2 i _ v ex ((uv).symm.trans e)
 induction aF using cJ.casesOn with
 |one j=>exact bO
 |many is=>obtain⟨us,au⟩:=hm;subst au;obtain⟨vs,l,k,rfl,f,r⟩:=y1 bO;exact⟨us,_,_,rfl,rfl,⟨_,fV _ _ f,rfl,k,rfl⟩,r⟩
theorem iE{α:Type}{P:α→Prop}:∀b∈([]:List α),P b:=fun ag h=>nomatch h
theorem dW{α:Type}{P:α→Prop}{a:α}{l:List α}(h:P a)(t:∀b∈l,P b):∀b∈a::l,P b:=fun b ae=>(ec.mp ae).elim (fun e=>e▸h) (t b)
theorem FK(ax:A.handled=J)(R:Rel w ae G W fm st s){aF:cJ}{t:Expr}(a5:tgt aF t){xs:List V}{vs:List Value}{l:Addr}(p:s.heap.PlainList l vs.toArray)(r:b5 W xs vs)(ar:(∃o,W.F l o)∨∃o,G l o):
  ∃P d5 cR,lj w A G W fm st (s.heap.push {cls:=.type "list_iterator",data:=.fields #[.ref l,.int 0 0]}) s.heap.objs.size aF t xs [s.heap.objs.size,l] [s.heap.objs.size] [s.heap.objs.size] P d5 cR:=by
 have i0:l≠s.heap.objs.size:=by refine f7 (p) fun k e=>?_;exact ki (Heap.lt_size e)
 have hC:=Walks.list (prog:=a4) (w:=w) (A:=A) ax s.heap.objs.size l i0 vs.toArray;rw[show vs.toArray.size=xs.length from r.1]at hC;refine⟨_,_,_,KTurns.ofWalks hC fun i v s' Q E aL aE=>?_,⟨⟨_,Heap.get?_push_size _ rfl,rfl,rfl⟩,(p.at fun o e=>Heap.get?_push_of_some _ e).isList⟩,fun b h=>h,dW (R.h7 (bE _)) iE,dW (.inl (.head _)) (dW (.inr ar) iE),fun i v h fb ex dM fV hm=>pJ ex r dM fV hm,fun i h aL=>dW (by obtain⟨⟨o,aO,_⟩,_⟩:=aL;exact⟨o,aO⟩) iE,hC.self 0⟩;obtain⟨⟨o,aO,ah,_⟩,_⟩:=aL;exact zQ a5 (cl:="list_iterator") (by decide) aO ah aE
theorem PL(ax:A.handled=J)(R:Rel w ae G W fm st s){aF:cJ}{t:Expr}(a5:tgt aF t){xs:List V}{vs:List Value}{l:Addr}{k:Nat}(p:s.heap.get? l=I {cls:=.type "tuple",data:=.seq vs.toArray k})(r:b5 W xs vs)(ar:(∃o,W.F l o)∨∃o,G l o):
  ∃P d5 cR,lj w A G W fm st (s.heap.push {cls:=.type "tuple_iterator",data:=.fields #[.ref l,.int 0 0]}) s.heap.objs.size aF t xs [s.heap.objs.size,l] [s.heap.objs.size] [s.heap.objs.size] P d5 cR:=by
 have i0:l≠s.heap.objs.size:=ki (Heap.lt_size p);have hC:=Walks.tuple (prog:=a4) (w:=w) (A:=A) ax s.heap.objs.size l i0 vs.toArray;rw[show vs.toArray.size=xs.length from r.1]at hC;refine⟨_,_,_,KTurns.ofWalks hC fun i v s' Q E aL aE=>?_,⟨⟨_,Heap.get?_push_size _ rfl,rfl,rfl⟩,⟨_,Heap.get?_push_of_some _ p,rfl,_,rfl⟩⟩,fun b h=>h,dW (R.h7 (bE _)) iE,dW (.inl (.head _)) (dW (.inr ar) iE),fun i v h fb ex dM fV hm=>pJ ex r dM fV hm,fun i h aL=>dW (by obtain⟨⟨o,aO,_⟩,_⟩:=aL;exact⟨o,aO⟩) iE,hC.self 0⟩;obtain⟨⟨o,aO,ah,_⟩,_⟩:=aL;exact zQ a5 (cl:="tuple_iterator") (by decide) aO ah aE
theorem PM{xs:List V}:∀{k i:Nat},(pairs k xs)[i]? =(xs[i]?).map fun x=>V.tup [.int ((k+i:Nat):Int),x]:=by
 induction xs with
 |nil=>intro k i;rfl
 |cons x r aG=>
  intro k i
  induction i using fe with
  |zero=>rfl
  |succ i=>exact(aG (k:=k+1) (i:=i)).trans (by erw[show k+1+i=k+(i+1)from LM k i];rfl)
theorem FL{xs:List V}:∀{k:Nat},(pairs k xs).length=xs.length:=by
 induction xs with
 |nil=>intro k;rfl
 |cons x r aG=>intro k;exact congrArg (· +1) aG
theorem PN{xs:List V}:∀{aS:List V} {i:Nat} {z:V},(k4 xs aS)[i]? =I z→∃x y,xs[i]? =I x∧aS[i]? =I y∧z= .tup [x,y]:=by
 induction xs with
 |nil=>intro aS i z h;exact c1 h
 |cons x xs aG=>
  intro aS i z h
  rcases aS with _|⟨y,aS⟩
  ·exact c1 h
  ·induction i using fe with
   |zero=>exact⟨x,y,rfl,rfl,(Option.some.inj h).symm⟩
   |succ i=>exact aG (i:=i) h
theorem FN{xs:List V}:∀{aS:List V},(k4 xs aS).length=min xs.length aS.length:=by
 induction xs with
 |nil=>intro aS;exact(Nat.zero_min _).symm
 |cons x xs aG=>
  intro aS
  rcases aS with _|⟨y,aS⟩
  ·rfl
  ·exact(congrArg Nat.succ aG).trans (Nat.succ_min_succ ..).symm
theorem PO(ax:A.handled=J)(R:Rel w ae G W fm st s){is:List Nat}{es:List Expr}{k:Nat}{p:Pos}{xs:List V}{vs:List Value}{l:Addr}(pl:s.heap.PlainList l vs.toArray)(r:b5 W xs vs)(ar:(∃o,W.F l o)∨∃o,G l o){h':Heap}
  (he:IsEnum h' (s.heap.objs.size+1) s.heap.objs.size 0 .none) (hit:h'.IsListIter s.heap.objs.size l 0) (ai:∀b o,s.heap.get? b=I o→h'.get? b=I o):
  ∃P d5 cR,lj w A G W fm st h' (s.heap.objs.size+1) (.many is) (.Tuple es k p) (pairs 0 xs) [s.heap.objs.size+1,s.heap.objs.size,l] [s.heap.objs.size+1,s.heap.objs.size] [s.heap.objs.size+1,s.heap.objs.size] P d5 cR:=by
 have dQ:l<s.heap.objs.size:=by refine f7 (pl) fun k e=>?_;exact Heap.lt_size e
 have hC:=(WalksT.enumerate (prog:=a4) (w:=w) (A:=A) ax (s.heap.objs.size+1) s.heap.objs.size l (Nat.succ_ne_self _) (ki (lO dQ)) (ki dQ) vs.toArray).toU;rw[show vs.toArray.size=(pairs 0 xs).length from r.1.trans FL.symm]at hC;refine⟨_,_,_,KTurns.ofWalksU hC,⟨⟨_,he⟩,hit,(pl.at fun o e=>ai _ o e).isList⟩,fun b h=>h,dW (R.h7 (lN _)) (dW (R.h7 (bE _)) iE),dW (.inl (.head _)) (dW (.inl (.tail _ (.head _))) (dW (.inr ar) iE)),fun i v h fb ex dM fV hm=>?_,fun i h aL=>by obtain⟨⟨_,aa⟩,⟨_,ab,_⟩,_⟩:=aL;exact dW ⟨_,aa⟩ (dW ⟨_,ab⟩ iE),hC.self 0⟩;obtain⟨T,vals,rfl,⟨t,x,aC,rfl⟩,d'⟩:=dM;rw[PM]at ex;obtain⟨y,aV,rfl⟩:=omap ex;refine⟨_,[.int i t,x],T,rfl,rfl,d',?_⟩;rw[nN];exact .cons (.int _ _) (.cons (r.2 i y x aV ((uv).symm.trans aC)) .nil)
theorem PQ(N aM bt:Nat)(a1:aM<N)(a2:bt<N):ZipApart (N+4) (N+2) (N+3) N (N+1) aM bt:=by
 constructor<;>(lia)
theorem PR(ax:A.handled=J)(R:Rel w ae G W fm st s){is:List Nat}{es:List Expr}{k:Nat}{p:Pos}{xs aS:List V}{vs us:List Value}{aM bt:Addr}(cL:s.heap.PlainList aM vs.toArray)(ck:s.heap.PlainList bt us.toArray)(a8:b5 W xs vs)(b3:b5 W aS us)
  (FO:(∃o,W.F aM o)∨∃o,G aM o) (om:(∃o,W.F bt o)∨∃o,G bt o) {h':Heap}
  (bw:IsZip h' (s.heap.objs.size+4) (s.heap.objs.size+2) (s.heap.objs.size+3) .none) (PS:IsPair h' (s.heap.objs.size+2) (.ref s.heap.objs.size) (.ref (s.heap.objs.size+1)))
  (PT:IsPair h' (s.heap.objs.size+3) .none .none) (zR:h'.IsListIter s.heap.objs.size aM 0) (m2:h'.IsListIter (s.heap.objs.size+1) bt 0) (ai:∀c o,s.heap.get? c=I o→h'.get? c=I o):
  ∃P d5 cR,lj w A G W fm st h' (s.heap.objs.size+4) (.many is) (.Tuple es k p) (k4 xs aS) [s.heap.objs.size+4,s.heap.objs.size+2,s.heap.objs.size+3,s.heap.objs.size,s.heap.objs.size+1,aM,bt]
   [s.heap.objs.size+4,s.heap.objs.size+2,s.heap.objs.size+3,s.heap.objs.size,s.heap.objs.size+1] [s.heap.objs.size+4,s.heap.objs.size+3,s.heap.objs.size,s.heap.objs.size+1] P d5 cR:=by
 have PU:aM<s.heap.objs.size:=by refine f7 (cL) fun k e=>?_;exact Heap.lt_size e
 have PV:bt<s.heap.objs.size:=by refine f7 (ck) fun k e=>?_;exact Heap.lt_size e
 have hC:=(WalksT.zip2 (prog:=a4) (w:=w) (A:=A) ax _ _ _ _ _ aM bt (PQ _ _ _ PU PV) vs.toArray us.toArray).toU;rw[show min vs.toArray.size us.toArray.size=(k4 xs aS).length from(show min vs.length us.length=_ from a8.1▸b3.1▸rfl).trans FN.symm]at hC;have h0 {k}:Off G W fm st (s.heap.objs.size+k):=R.h7 (f6 _ _);refine⟨_,_,_,KTurns.ofWalksU hC,⟨bw,PS,⟨_,_,PT⟩,zR,m2,(cL.at fun o e=>ai _ o e).isList,(ck.at fun o e=>ai _ o e).isList⟩,dW (.head _) (dW (.tail _ (.tail _ (.head _))) (dW (.tail _ (.tail _ (.tail _ (.head _)))) (dW (.tail _ (.tail _ (.tail _ (.tail _ (.head _))))) iE))),dW h0 (dW h0 (dW h0 (dW (R.h7 (bE _)) (dW h0 iE)))),dW (.inl (.head _)) (dW (.inl (.tail _ (.head _))) (dW (.inl (.tail _ (.tail _ (.head _)))) (dW (.inl (.tail _ (.tail _ (.tail _ (.head _))))) (dW (.inl (.tail _ (.tail _ (.tail _ (.tail _ (.head _)))))) (dW (.inr FO) (dW (.inr om) iE)))))),fun i v h fb ex dM fV hm=>?_,fun i h aL=>by obtain⟨aa,ab,⟨_,_,aq⟩,⟨_,ba,_⟩,⟨_,b0,_⟩,_⟩:=aL;exact dW ⟨_,aa⟩ (dW ⟨_,ab⟩ (dW ⟨_,aq⟩ (dW ⟨_,ba⟩ (dW ⟨_,b0⟩ iE)))),hC.self 0⟩
 obtain⟨T,vals,rfl,⟨x,y,aC,aV,rfl⟩,d'⟩:=dM;obtain⟨a,b,aB,bf,rfl⟩:=PN ex;exact⟨_,[x,y],T,rfl,rfl,d',.cons (a8.2 i a x aB ((uv).symm.trans aC)) (.cons (b3.2 i b y bf ((uv).symm.trans aV)) .nil)⟩
theorem PW(ax:A.handled=J)(R:Rel w ae G W fm st s){aF:cJ}{t:Expr}(a5:tgt aF t){a b:Int}:
  ∃P d5 cR,lj w A G W fm st (s.heap.push {cls:=.type "range_iterator",data:=.fields #[rawInt a,rawInt (Builtin.Range.rangeSize a b 1),rawInt 1]}) s.heap.objs.size aF t (gM a b) [s.heap.objs.size] [s.heap.objs.size] [s.heap.objs.size] P d5 cR:=by
 have lb:(b-a).toNat=(gM a b).length:=((bF _).trans LN).symm;have hC:=Walks.range (prog:=a4) (w:=w) (A:=A) ax s.heap.objs.size a 1 (b-a).toNat;rw[lb]at hC;refine⟨_,_,_,KTurns.ofWalks hC fun i v s' Q E aL aE=>zQ a5 (cl:="range_iterator") (by decide) aL rfl aE,?_,fun b h=>h,dW (R.h7 (bE _)) iE,dW (.inl (.head _)) iE,fun i v h fb ex dM fV mU=>?_,fun i h aL=>dW ⟨_,aL⟩ iE,hC.self 0⟩
 ·have:=Heap.get?_push_size s.heap (o:={cls:=.type "range_iterator",data:=.fields #[rawInt a,rawInt (Builtin.Range.rangeSize a b 1),rawInt 1]}) rfl;rw[rangeSize_nat]at this⊢;rw[lb]at this⊢;show IsRangeIter _ _ (a+((0:Nat):Int)*1) (((gM a b).length:Int)-((0:Nat):Int)) 1;erw[show a+((0:Nat):Int)*1=a from eP a,show((gM a b).length:Int)-((0:Nat):Int)=(gM a b).length from rS _];exact this
 ·obtain⟨y,aV,e⟩:=omap ((lP ..).symm.trans ex);cases e
  induction aF using cJ.casesOn with
  |many is=>refine f7 (mU) fun us e=>?_;cases e
  |one j=>obtain⟨t,rfl⟩:=dM;cases Option.some.inj ((Z9 (rT (d7.mp aV).1 LN)).symm.trans aV);erw[LD];exact .int _ _
end
end
end Mine
end
section
open PySem PySem.W PySem.Calls PyProof.Rows PySem.SeqAt
namespace Mine
noncomputable section
section
variable{cx:bV}{A:Around}{G dJ:Addr→Obj→Prop}{W W' W1:a3}{fm fm':bS}{st st' st1:St}{s:Shared}
inductive FP(G dJ:Addr→Obj→Prop)(W1:a3)(fm:bS)(i:Nat)(xs:List V):Prop where
 |mk (q:Addr×Addr) (vs:List Value) (k:Nat) (aE:W1.p[i]? =I q) (e:q.1=q.2) (bO:b5 W1 xs vs) (g:dJ=fun a br=>G a br∨(a=q.2∧br={cls:=.type "list",data:=.seq (mF vs) k})) (cF:∀o,¬G q.2 o) (nl:¬hv fm q.2):FP G dJ W1 fm i xs
noncomputable def FQ(G dJ:Addr→Obj→Prop)(W1:a3)(fm:bS)(x:X)(xs:List V):Prop:=match x with
 | .v _=>dJ=G
 | .cell i=>FP G dJ W1 fm i xs
inductive oo(w:World)(ae:Heap)(A:Around)(G:Addr→Obj→Prop)(W:a3)(fm:bS)(s:Shared)(x:X)(xs:List V)(st1:St)(aF:cJ)(target:Expr)(vu:Value)(s₂:Shared):Prop where
 |mk (cc:Addr) (W1:a3) (dJ:Addr→Obj→Prop) (bq ea wr:List Addr) (P d5:Nat→Value→Heap→Prop) (cR:Nat→Heap→Prop) (e:vu= .ref cc) (l:W.le W1) (R:Rel w ae dJ W1 fm st1 s₂) (o:s₂.os=s.os) (T:lj w A dJ W1 fm st1 s₂.heap cc aF target xs bq ea wr P d5 cR) (L:FQ G dJ W1 fm x xs):oo w ae A G W fm s x xs st1 aF target vu s₂
theorem oo.step{W':a3}{s1:Shared}{x:X}{xs:List V}{aF:cJ}{t:Expr}{v:Value}{s':Shared}(h:W.le W')(o:s1.os=s.os)(p:oo w ae A G W' fm s1 x xs st1 aF t v s'):oo w ae A G W fm s x xs st1 aF t v s':=by obtain⟨cc,W1,dJ,bq,ea,wr,P,d5,cR,a,b,c,d,e,f⟩:=p;exact⟨cc,W1,dJ,bq,ea,wr,P,d5,cR,a,h.trans b,c,d.trans o,e,f⟩
theorem PX(ax:A.handled=J)(R:Rel w ae G W fm st s){x:X}{u:Value}(r:b8 W x u){xs:List V}(h:st.lend x=I (xs,st')){aF:cJ}{t:Expr}(a5:tgt aF t):
  wpAny (model a4 w) A (pyIter u) (oo w ae A G W fm s x xs st' aF t) bL s:=by
 induction x using X.casesOn with
 |v v=>
  obtain⟨aS,aL,aa⟩:=aU (show(kr v).bind _=I (xs,st')from h);obtain⟨_,ab⟩:=c0 aa;cases ab
  rcases y9 aL with rfl|rfl
  ·obtain⟨vs,l,k,rfl,f,bO⟩:=lst_inv r;have p:=R.cD _ _ f;obtain⟨P,d5,cR,T⟩:=FK ax R a5 ⟨k,p⟩ bO (.inl ⟨_,f⟩);exact wpAny_pyIter_list ⟨_,p,rfl,_,rfl⟩ ⟨_,W,G,_,_,_,P,d5,cR,rfl,.rfl,R.keep (k:=s.toks) fun b o e=>Heap.get?_push_of_some _ e,rfl,T,rfl⟩
  ·obtain⟨vs,l,k,rfl,f,bO⟩:=y1 r;have p:=R.cD _ _ f;obtain⟨P,d5,cR,T⟩:=PL ax R a5 p bO (.inl ⟨_,f⟩);exact wpAny_pyIter_tuple ⟨_,p,rfl,_,rfl⟩ ⟨_,W,G,_,_,_,P,d5,cR,rfl,.rfl,R.keep (k:=s.toks) fun b o e=>Heap.get?_push_of_some _ e,rfl,T,rfl⟩
 |cell i=>obtain⟨aS,i5,aa⟩:=aU (show(st.lst i).bind _=I (xs,st')from h);obtain⟨_,ab⟩:=c0 aa;cases ab;have ah:=n8 i5;obtain⟨q,aE,rfl⟩:=r;obtain⟨e,vs,⟨k,p⟩,bO⟩:=R.cells _ _ _ ah aE;have L:=R.lend ah aE p;obtain⟨P,d5,cR,T⟩:=FK ax L a5 ⟨k,p⟩ bO (.inr ⟨_,.inr ⟨rfl,rfl⟩⟩);erw[show q.1=q.2 from e];exact wpAny_pyIter_list ⟨_,p,rfl,_,rfl⟩ ⟨_,W,_,_,_,_,P,d5,cR,rfl,.rfl,L.keep (k:=s.toks) fun b o e=>Heap.get?_push_of_some _ e,rfl,T,q,vs,k,aE,e,bO,rfl,R.eB q.2 (.hp i _ q ⟨ah,rfl,aE⟩ rfl),R.g' ⟨ah,rfl,aE⟩⟩
theorem PY{a b:Int}(aa: -100000≤a∧a≤100000)(ab: -100000≤b∧b≤100000):Builtin.Range.small a b 1=true:=small_one (d0 aa.1 rfl) (k0 aa.2 rfl) (d0 ab.1 rfl) (k0 ab.2 rfl)
noncomputable def zS:List (String×Value):=[("enumerate",.type "enumerate"),("zip",.type "zip"),("range",.type "range")]
theorem PZ(P:Params):(zS.all (vn P))=true:=by kernel_rfl
theorem P0(aQ:cH w ae cb cm)(R:Rel w ae G W fm st s)(hf:dw cx fm){x:Str}(aC:cx.gl x=true){y:String}{v:Value}(aV:(y,v)∈zS)(a5:dc x y=true){pos:Pos}{Q:Value→Shared→Prop}(h:Q v s):
  wpAny (model a4 w) A (eval (.Name x pos) fm.env) Q bL s:=
 sN aQ R hf aC ⟨y,beq_iff_eq.mp a5,h2.mp (PZ w.params) _ aV⟩ h
theorem FR{s':Shared}{st1:St}{W1:a3}{sS FT FU:Value}{a b:Int}{h:Heap}{k:Nat}{aF:cJ}{t:Expr}(ax:A.handled=J)(aZ:Rel w ae G W1 fm st1 s')(aM:W.le W1)(a0:s'.os=s.os)(a5:tgt aF t)
  (e:h=s'.heap.push {cls:=.type "range",data:=.fields #[sS,FT,FU]}) (aa: -100000≤a∧a≤100000) (ab: -100000≤b∧b≤100000) {t1 e1 t3:Tok} (bT:sS= .int a t1:=by rfl) (cU:FT= .int b e1:=by rfl) (js:FU= .int 1 t3:=by rfl):
  wpAny (model a4 w) A (pyIter (.ref s'.heap.objs.size)) (oo w ae A G W fm s (.v .bB) (gM a b) st1 aF t) bL {s' with heap:=h,toks:=k}:=by
 subst e bT cU js;have cy:=aZ.keep (h':=s'.heap.push {cls:=.type "range",data:=.fields #[.int a t1,.int b e1,.int 1 t3]}) (k:=k) fun b o e=>Heap.get?_push_of_some _ e;refine wpAny_pyIter_range (s:={s' with heap:=s'.heap.push {cls:=.type "range",data:=.fields #[.int a t1,.int b e1,.int 1 t3]},toks:=k}) (Heap.get?_push_size _ rfl) (PY aa ab) ?_;obtain⟨P,d5,cR,T⟩:=PW ax cy a5 (a:=a) (b:=b);exact⟨_,W1,G,_,_,_,P,d5,cR,rfl,aM,cy.keep (k:=k) fun b o e=>Heap.get?_push_of_some _ e,a0,T,rfl⟩
theorem vv{a:ao}{x:X}(bT:aj C a st=I (x,st')):dq C (.cons a .nil) st=I ([x],st'):=by show aY (aj C a st) _=_;erw[bT];rfl
theorem FV{a b:ao}{x y:X}{s1:St}(bT:aj C a st=I (x,s1))(cU:aj C b s1=I (y,st')):dq C (.cons a (.cons b .nil)) st=I ([x,y],st'):=by
 have h:aY (dq C (.cons b .nil) s1) (fun xs st=>I (x::xs,st))=I ([x,y],st'):=by erw[vv cU];rfl
 show aY (aj C a st) _=_;erw[bT];exact h
theorem sT{i:Int}(h:inR i=true): -100000≤i∧i≤100000:=by obtain⟨a,b⟩:=cC.mp h;exact⟨of_decide_eq_true a,of_decide_eq_true b⟩
noncomputable def pK(w:World)(ae:Heap)(A:Around)(G:Addr→Obj→Prop)(W:a3)(fm:bS)(s:Shared)(it:Expr)(x:X)(xs:List V)(st':St)(aF:cJ)(t:Expr):Prop:=wpAny (model a4 w) A (eval it fm.env) (fun u s₁=>wpAny (model a4 w) A (pyIter u) (oo w ae A G W fm s x xs st' aF t) bL s₁) bL s
theorem P1(ax:d1 n A)(hf:dw cx fm)(R:Rel w ae G W fm st s){it t:Expr}{aH:ao}{aF:cJ}{x:X}{xs:List V}(hit:bj w ae C n cx it)(ce:aW cx it=I aH)(a5:tgt aF t)(aN:fi C (.of aH) st=I (x,xs,st')):pK w ae A G W fm s it x xs st' aF t:=by obtain⟨y,s1,ee,aa⟩:=b2 (show aY (aj C aH st) (fun x st=>(st.lend x).map fun p=>(x,p.1,p.2))=I (x,xs,st')from aN);obtain⟨p,pL,ab⟩:=omap aa;cases ab;exact dm (hit ce ax hf R ee) fun u s₁ W1 aM aZ a8 a0=>wpAny_mono (PX ax.h aZ a8 pL a5) (fun ag ag q=>q.step aM a0) fun ag ag x=>x
section
variable{f:Str}{bq p:Pos}{as:List Expr}{t:Expr}{aF:cJ}{x:X}{xs:List V}(aQ:cH w ae cb cm)(ax:d1 n A)(hf:dw cx fm)(R:Rel w ae G W fm st s)(fu:∀e,e∈as→bj w ae C n cx e)(a5:tgt aF t)
include aQ ax hf R fu a5
theorem vw{y:String}{v:Value}{bg:az}{zs:List X}(hD:dv cx as=I bg)(aK:(cx.gl f&&dc f y)=true)(hm:(y,v)∈zS)(aJ:∃i,v= .type i)(ex:dq C bg st=I (zs,st'))
  (k:∀us W' s',W.le W'→Rel w ae G W' fm st' s'→s'.os=s.os→cM W' zs us→wpAny (model a4 w) A (call v us) (fun u s₁=>wpAny (model a4 w) A (pyIter u) (oo w ae A G W fm s x xs st' aF t) bL s₁) bL s'):pK w ae A G W fm s (.Call (.Name f bq) as [] p) x xs st' aF t:=by
 obtain⟨aK,aV⟩:=cC.mp aK;exact Call_ (P0 aQ R hf aK hm aV (zH fu hD ax hf R ex (.inr aJ) k))
theorem P2{a:ao}(hD:dv cx as=I (.cons a .nil))(aK:(cx.gl f&&dc f "enumerate")=true)(gP:mO aF (.enum a)=true)(aN:fi C (.enum a) st=I (x,xs,st')):pK w ae A G W fm s (.Call (.Name f bq) as [] p) x xs st' aF t:=by
 obtain⟨z,s1,bT,aa⟩:=b2 (show aY (aj C a st) (fun x st=>(xL x).bind fun xs=>if fit xs.length then I (X.v .bB,pairs 0 xs,st)else J)=I (x,xs,st')from aN);obtain⟨aS,bw,ab⟩:=aU aa;obtain⟨_,aq⟩:=c0 ab;obtain rfl:=vb bw;cases aq;refine vw aQ ax hf R fu a5 hD aK (.head _) ⟨_,rfl⟩ (vv bT) fun us W1 s' aM aZ a0 a8=>?_;obtain⟨u,rfl,eV⟩:=a8.one;obtain⟨vs,l,k,rfl,cD,bO⟩:=lst_inv eV;have iC:s'.heap.PlainList l vs.toArray:=⟨k,aZ.cD _ _ cD⟩
 refine call_enumerate_list iC.isList fun h' he hit lb ai=>?_
 induction aF using cJ.casesOn with
 |one=>cases gP
 |many is=>obtain⟨es,jt,dp,rfl⟩:=a5;obtain⟨P,d5,cR,T⟩:=PO (h':=h') (is:=is) (es:=es) (k:=jt) (p:=dp) ax.h aZ iC bO (.inl ⟨_,cD⟩) he hit ai;exact wpAny_pyIter_enum he ⟨_,W1,G,_,_,_,P,d5,cR,rfl,aM,aZ.keep (k:=s'.toks) ai,a0,T,rfl⟩
theorem P4{a b:ao}(hD:dv cx as=I (.cons a (.cons b .nil)))(aK:(cx.gl f&&dc f "zip")=true)(gP:mO aF (.zip a b)=true)(aN:fi C (.zip a b) st=I (x,xs,st')):pK w ae A G W fm s (.Call (.Name f bq) as [] p) x xs st' aF t:=by
 obtain⟨z,s1,bT,aa⟩:=b2 (show aY (aj C a st) (fun x st=>(xL x).bind fun xs=>aY (aj C b st) fun y st=>(xL y).bind fun aS=>if fit (xs.length+aS.length)then I (X.v .bB,k4 xs aS,st)else J)=I (x,xs,st')from aN);obtain⟨aS,bw,ab⟩:=aU aa;obtain⟨jR,s2,cU,aq⟩:=b2 ab;obtain⟨zs,la,ba⟩:=aU aq;obtain⟨_,b0⟩:=c0 ba;clear aN aa ab aq ba;obtain rfl:=vb bw;obtain rfl:=vb la;cases b0;refine vw aQ ax hf R fu a5 hD aK (.tail _ (.head _)) ⟨_,rfl⟩ (FV bT cU) fun us W1 s' aM aZ a0 a8=>?_;obtain⟨u,v,rfl,eV,bO⟩:=a8.two;obtain⟨vs,l,k,rfl,cD,P5⟩:=lst_inv eV;obtain⟨us,bt,ft,rfl,FW,P6⟩:=lst_inv bO;have iC:s'.heap.PlainList l vs.toArray:=⟨k,aZ.cD _ _ cD⟩
 have FX:s'.heap.PlainList bt us.toArray:=⟨ft,aZ.cD _ _ FW⟩
 refine call_zip_2 iC.isList FX.isList fun h' g5 jR jl h3 uI lb ai=>?_
 induction aF using cJ.casesOn with
 |one=>cases gP
 |many is=>obtain⟨es,jt,dp,rfl⟩:=a5;obtain⟨P,d5,cR,T⟩:=PR (h':=h') (is:=is) (es:=es) (k:=jt) (p:=dp) ax.h aZ iC FX P5 P6 (.inl ⟨_,cD⟩) (.inl ⟨_,FW⟩) g5 jR jl h3 uI ai;exact wpAny_pyIter_zip g5 ⟨_,W1,G,_,_,_,P,d5,cR,rfl,aM,aZ.keep (k:=s'.toks) ai,a0,T,rfl⟩
theorem src_range{b:ao}(hD:dv cx as=I (.cons b .nil))(aK:(cx.gl f&&dc f "range")=true)(aN:fi C (.range b) st=I (x,xs,st')):pK w ae A G W fm s (.Call (.Name f bq) as [] p) x xs st' aF t:=by obtain⟨z,s1,bT,aa⟩:=b2 (show aY (aj C b st) (fun y st=>(fJ y).bind fun n=>if inR n then I (X.v .bB,gM 0 n,st)else J)=I (x,xs,st')from aN);obtain⟨m,bw,ab⟩:=aU aa;obtain⟨hm,aq⟩:=c0 ab;obtain rfl:=l9 bw;cases aq;refine vw aQ ax hf R fu a5 hD aK (.tail _ (.tail _ (.head _))) ⟨_,rfl⟩ (vv bT) fun us W1 s' aM aZ a0 a8=>?_;obtain⟨u,rfl,eV⟩:=a8.one;obtain⟨t',rfl⟩:=hQ eV;exact call_range_1 (FR ax.h aZ aM a0 a5 rfl ⟨by decide,by decide⟩ (sT hm))
theorem P7{a b:ao}(hD:dv cx as=I (.cons a (.cons b .nil)))(aK:(cx.gl f&&dc f "range")=true)(aN:fi C (.lY a b) st=I (x,xs,st')):pK w ae A G W fm s (.Call (.Name f bq) as [] p) x xs st' aF t:=by obtain⟨z,s1,bT,aa⟩:=b2 (show aY (aj C a st) (fun x st=>(fJ x).bind fun m=>aY (aj C b st) fun y st=>(fJ y).bind fun n=>if inR m&&inR n then I (X.v .bB,gM m n,st)else J)=I (x,xs,st')from aN);obtain⟨m,bw,ab⟩:=aU aa;obtain⟨jR,s2,cU,aq⟩:=b2 ab;obtain⟨ma,la,ba⟩:=aU aq;obtain⟨hm,b0⟩:=c0 ba;clear aN aa ab aq ba;obtain rfl:=l9 bw;obtain rfl:=l9 la;obtain⟨hm,vx⟩:=cC.mp hm;cases b0;refine vw aQ ax hf R fu a5 hD aK (.tail _ (.tail _ (.head _))) ⟨_,rfl⟩ (FV bT cU) fun us W1 s' aM aZ a0 a8=>?_;obtain⟨u,v,rfl,eV,bO⟩:=a8.two;obtain⟨t',rfl⟩:=hQ eV;obtain⟨sU,rfl⟩:=hQ bO;exact call_range_2 (FR ax.h aZ aM a0 a5 rfl (sT hm) (sT vx))
end
inductive sV(cx:bV)(f:Str)(bg:az)(src:Src):Prop where
 |enum (a:ao) (e:bg= .cons a .nil) (h:(cx.gl f&&dc f "enumerate")=true) (au:src= .enum a):sV cx f bg src
 |range (a:ao) (e:bg= .cons a .nil) (h:(cx.gl f&&dc f "range")=true) (au:src= .range a):sV cx f bg src
 |zip (a b:ao) (e:bg= .cons a (.cons b .nil)) (h:(cx.gl f&&dc f "zip")=true) (au:src= .zip a b):sV cx f bg src
 |lY (a b:ao) (e:bg= .cons a (.cons b .nil)) (h:(cx.gl f&&dc f "range")=true) (au:src= .lY a b):sV cx f bg src
theorem P8{f:Str}{bg:az}{src:Src}(h:yC cx f bg=I src):sV cx f bg src:=by
 induction bg using az.casesOn with
 |nil=>exact c1 h
 |cons a r=>
 induction r using az.casesOn with
 |nil=>
  rcases h5 h with⟨aK,e⟩|h
  ·exact .enum a rfl aK (Option.some.inj e).symm
  ·obtain⟨aK,e⟩:=c0 h;exact .range a rfl aK (Option.some.inj e).symm
 |cons b r=>
 induction r using az.casesOn with
 |cons=>exact c1 h
 |nil=>
  rcases h5 h with⟨aK,e⟩|h
  ·exact .zip a b rfl aK (Option.some.inj e).symm
  ·obtain⟨aK,e⟩:=c0 h;exact .lY a b rfl aK (Option.some.inj e).symm
theorem P9{it:Expr}{f:Str}(h:nameOf it=I f):∃bq args a6 p,it= .Call (.Name f bq) args a6 p:=by obtain⟨g,args,a6,p,rfl,h⟩:=FI h;obtain⟨x,bq,rfl,h⟩:=zO h;cases h;exact⟨bq,args,a6,p,rfl⟩
theorem FY(aQ:cH w ae cb cm)(ax:d1 n A)(hf:dw cx fm)(R:Rel w ae G W fm st s){it t:Expr}{src:Src}{aF:cJ}{x:X}{xs:List V}(hit:bj w ae C n cx it)(fu:∀f as p,it= .Call f as [] p→∀e,e∈as→bj w ae C n cx e)
  (ah:l0 cx it (aW cx it) (mQ cx it)=I src) (a5:tgt aF t) (gP:mO aF src=true) (aN:fi C src st=I (x,xs,st')):pK w ae A G W fm s it x xs st' aF t:=by
 cases vy:(nameOf it).bind fun f=>(mQ cx it).bind (yC cx f)with
 |none=>
  have ah:(aW cx it).map Src.of=I src:=by erw[←ah];unfold l0;erw[vy]
  obtain⟨aH,ce,rfl⟩:=omap ah;exact P1 ax hf R hit ce a5 aN
 |some P'=>
  have ah:I P'=I src:=by erw[←ah];unfold l0;erw[vy]
  cases ah;obtain⟨f,Qa,aa⟩:=aU vy;obtain⟨bg,Qb,ab⟩:=aU aa;clear vy aa;obtain⟨bq,args,a6,p,rfl⟩:=P9 Qa;obtain⟨zT,hD⟩:=c0 (show(if a6.isEmpty then dv cx args else J)=I bg from Qb);obtain rfl:=km.mp zT;have aB:=fu _ _ _ rfl;cases P8 ab with
  |enum a e aK au=>subst e au;exact P2 aQ ax hf R aB a5 hD aK gP aN
  |range a e aK au=>subst e au;exact src_range aQ ax hf R aB a5 hD aK aN
  |zip a b e aK au=>subst e au;exact P4 aQ ax hf R aB a5 hD aK gP aN
  |lY a b e aK au=>subst e au;exact P7 aQ ax hf R aB a5 hD aK aN
end
end
end Mine
end
section
open PySem PySem.W PySem.Calls PyProof.Rows PySem.SeqAt
namespace Mine
noncomputable section
section
variable{cx:bV}{A:Around}{G dJ:Addr→Obj→Prop}{W W' W1:a3}{fm fm':bS}{st st' st1:St}{s:Shared}
theorem q1{x:Str}{i:Nat}(h:cx.ak x=I i):cx.vars.lookup x=I i∧dc x "__debug__"=false∧x ∉ cx.frees:=by refine bC (fun aA h=>?_) (hu h);refine bC (fun a b=>?_) (u' h);exact⟨a,b,by simpa using aA⟩
theorem zU(R:Rel w ae G W fm st s)(hf:dw cx fm){x:Str}{i:Nat}(aC:cx.ak x=I i){v:X}{u:Value}(r:b8 W v u){E:Value→Shared→Prop}:
  wpAny (model a4 w) A (storeName fm.env x u) (fun ag s'=>Rel w ae G W fm (st.f' i v) s'∧s'.os=s.os) E s:=by
 obtain⟨aC,_,zV⟩:=q1 aC;have sJ:fm.vars.lookup x=I i:=by erw[hf.vars];exact aC
 have l5:∀y j,fm.vars.lookup y=I j→j=i→y=x:=by rintro y j h rfl;rw[hf.vars]at h;exact hf.inj y x _ h aC
 rcases hf.ej x i aC with ai|ai|⟨_,_,h⟩
 ·obtain⟨m,hm,_⟩:=R.ns;exact wpAny_storeName_local (bS.n4 ai (by decide)) hm (fun h' hz fL=>⟨R.NJ sJ ai l5 r hm hz fL,rfl⟩) (by erw[hf.kind];rfl)
 ·obtain⟨c,fK,e,_,f,g⟩:=R.jq x i sJ ai;refine wpAny_storeName_cell hf.kind (bS.n4 ai (by decide)) e f fun h' Qc fL=>⟨?_,rfl⟩;exact R.NK (k:=s.toks) sJ ai e l5 (fun y j aa ab aq=>(hf.apart x y i j c aC (by erw[←hf.vars];exact aa) e aq ai ab).symm) r Qc fL
 ·exact absurd h zV
theorem vz(R:Rel w ae G W fm st s)(hf:dw cx fm){x:Str}{i:Nat}{p:Pos}(aC:cx.ak x=I i){v:X}{u:Value}(r:b8 W v u){E:Value→Shared→Prop}:
  wpAny (model a4 w) A (assign (.Name x p) fm.env u) (fun ag s'=>Rel w ae G W fm (st.f' i v) s'∧s'.os=s.os) E s:=wpAny_assign_Name (zU R hf aC r)
theorem zW{e:Expr}{es:List Expr}{is:List Nat}(h:pk cx (e::es)=I is):∃x p i r,e= .Name x p∧cx.ak x=I i∧pk cx es=I r∧is=i::r:=by
 induction e using Expr.casesOn with
 |Name x p=>obtain⟨i,aa,h⟩:=aU (show(cx.ak x).bind _=I is from h);obtain⟨zX,ab,e⟩:=omap h;exact⟨x,p,i,zX,rfl,aa,ab,e.symm⟩
 |_=>exact c1 h
theorem Qd(hf:dw cx fm){E:Value→Shared→Prop}{es:List Expr}:∀{is:List Nat} {us:List V} {vals:List Value} {st:St} {s:Shared},pk cx es=I is→Rel w ae G W fm st s→b5 W us vals→is.length=us.length→wpAny (model a4 w) A (assignInOrder ((assignEach es fm.env).map (·.2)) vals) (fun ag s'=>Rel w ae G W fm (ix is (us.map .v) st) s'∧s'.os=s.os) E s:=by
 induction es with
 |nil=>intro is us vals st s h R r ar;cases Option.some.inj (show I []=I is from h);cases o4 ar.symm;erw[r.u4];exact wpAny_pure ⟨R,rfl⟩
 |cons e es aG=>
  intro is us vals st s h R r ar;obtain⟨x,p,i,zX,rfl,aa,ab,rfl⟩:=zW h
  induction us using bY with
  |nil=>cases ar
  |cons u us=>obtain⟨v,vs,rfl,a8,b3⟩:=r.sm;refine wpAny_bind (wpAny_holding (wpAny_mono (vz (v:=.v u) R hf aa a8) (fun ag s' q=>?_) fun ag ag x=>x));refine wpAny_mono (aG ab q.1 b3 (Nat.succ.inj ar)) (fun ag mf gu=>?_) fun ag ag x=>x;exact⟨gu.1,gu.2.trans q.2⟩
theorem Qe{env:Env}{es:List Expr}:∀{is:List Nat},pk cx es=I is→(assignEach es env).length=is.length∧(assignEach es env).findIdx? (·.1)=J:=by
 induction es with
 |nil=>intro is h;cases Option.some.inj (show I []=I is from h);exact⟨rfl,rfl⟩
 |cons e es aG=>intro is h;obtain⟨x,p,i,zX,rfl,aa,ab,rfl⟩:=zW h;obtain⟨a,b⟩:=aG ab;have ay:assignEach (.Name x p::es) env=(false,assign (.Name x p) env)::assignEach es env:=rfl;erw[ay];exact⟨congrArg (· +1) a,by erw[Z',b];rfl⟩
theorem zY(ax:A.handled=J)(R:Rel w ae G W fm st s)(hf:dw cx fm){t:Expr}{aF:cJ}(a5:jX cx t=I aF){fb:V}{v:Value}(aJ:vr W s.heap aF fb v)(bf:hN aF fb st=I st'){E:Value→Shared→Prop}:
  wpAny (model a4 w) A (assign t fm.env v) (fun ag s'=>Rel w ae G W fm st' s'∧s'.os=s.os) E s:=by
 rcases zP a5 with⟨x,p,rfl,a5⟩|⟨es,k,p,rfl,a5⟩
 ·obtain⟨i,aw,rfl⟩:=omap a5;cases bf;exact vz (v:=.v fb) R hf aw aJ
 ·obtain⟨is,aw,rfl⟩:=omap a5;obtain⟨us,vals,T,rfl,rfl,d',r⟩:=aJ;obtain⟨vs,vA,rfl⟩:=omap (show(yv is.length (.tup us)).map _=I st' from bf);obtain⟨ar,e⟩:=c0 (show(if is.length=us.length then I us else J)=I vs from vA);cases e;obtain⟨a,b⟩:=Qe (env:=fm.env) aw;refine wpAny_assign_Tuple ax d' (by erw[a,ar,jh,r.1]) b fun h' ai=>?_;exact Qd hf aw (R.keep (h':=h') (k:=s.toks) fun b o e=>ai b o (ki (Heap.lt_size e)) e) r ar
theorem FZ{aF:cJ}{fb:V}(h:hN aF fb st=I st'):vt aF fb:=by
 induction aF using cJ.casesOn with
 |one i=>trivial
 |many is=>obtain⟨vs,aa,_⟩:=omap (show(yv is.length fb).map _=I st' from h);obtain⟨us,ab,_⟩:=aU aa;exact⟨us,va ab⟩
end
end
end Mine
end
section
open PySem PySem.W PySem.Calls PyProof.Rows PySem.SeqAt
namespace Mine
noncomputable section
section
variable{cx:bV}{A:Around}{G dJ:Addr→Obj→Prop}{W W' W1:a3}{fm fm':bS}{st st' st1:St}{s:Shared}
theorem Rel.Qf{sW:a3}{hB:St}{s0:Shared}(yW:Rel w ae G sW fm hB s0){E:List (Addr×Obj)}(R:Rel w ae (i1 G E) W fm st s):Rel w ae G W fm st s:=by refine R.yV (fun ag ag g=>.inl g) fun x i a b=>?_;obtain⟨c,v,o,e,g,d,r⟩:=R.jr x i a b;obtain⟨dr,fK,br,e4,oq,sv,_⟩:=yW.jr x i a b;cases e.symm.trans e4;cases (R.e3 c o g).symm.trans (R.e3 c br (.inl oq));exact⟨c,v,o,e,oq,d,r⟩
noncomputable def vB(h:Heap)(l:List Addr):List (Addr×Obj):=l.filterMap fun b=>(h.get? b).map fun o=>(b,o)
theorem vC{h:Heap}{l:List Addr}{a:Addr}{o:Obj}:(a,o)∈vB h l↔a∈l∧h.get? a=I o:=by
 unfold vB;erw[qr]
 constructor
 ·rintro⟨b,ae,e⟩;obtain⟨br,aa,ab⟩:=Z2.mp e;cases ab;exact⟨ae,aa⟩
 ·rintro⟨aa,ab⟩;exact⟨a,aa,by erw[ab];rfl⟩
theorem Rel.F0(R:Rel w ae G W fm st s){l:List Addr}(off:∀b∈l,Off G W fm st b):Rel w ae (i1 G (vB s.heap l)) W fm st s:=R.i2 fun a o h=>by obtain⟨aa,ab⟩:=vC.mp h;exact⟨ab,(off a aa).o,(off a aa).f⟩
theorem Rel.vD(R:Rel w ae G W fm st s){wr:List Addr}(off:∀b∈wr,Off G W fm st b){h':Heap}{k:Nat}(ai:∀b o,b ∉ wr→s.heap.get? b=I o→h'.get? b=I o):Rel w ae G W fm st {s with heap:=h',toks:=k}:=R.u6 fun b o e h=>ai b o (fun hw=>(off b hw).ne h rfl) e
theorem F1{hB:St}{h0:Heap}{cc:Addr}{aF:cJ}{target:Expr}{xs:List V}{bq ea wr:List Addr}{P d5:Nat→Value→Heap→Prop}{cR:Nat→Heap→Prop}(T:lj w A dJ W1 fm' hB h0 cc aF target xs bq ea wr P d5 cR){i:Nat}{fb:V}(aC:xs[i]? =I fb)(Qg:vt aF fb)
  (R:Rel w ae G W fm st s) (hle:W1.le W) (aL:cR i s.heap) (off:∀b∈ea,Off G W fm st b) {E:Value→Shared→Prop} {Q:Option Value→Shared→Prop} {Q2:Value→Shared→Prop}
  (cQ:∀v s₁,wpAny (model a4 w) A (letOwnedTupleGo target (.ref cc) v) (fun ag s'=>Q2 v s') E s₁→Q (I v) s₁)
  (h:∀v h' tk,Rel w ae G W fm st {s with heap:=h',toks:=tk}→cR (i+1) h'→vr W h' aF fb v→(∀b o,b ∉ wr→s.heap.get? b=I o→h'.get? b=I o)→Q2 v {s with heap:=h',toks:=tk}):
  wpAny (model a4 w) A (pyNext (.ref cc)) Q E s:=by
 have F2:∀b∈wr,Off G W fm st b:=fun b bf=>off b (T.wr b bf);have aw:i<xs.length:=(d7.mp aC).1;refine T.K.item i s _ _ aw aL fun v aa tk ic ai=>cQ v _ ?_;refine T.K.go i v {s with heap:=aa,toks:=tk} _ _ ic fun ab dM fM zZ=>?_;have cy:=(R.vD (k:=tk) F2 ai).vD (k:=tk) F2 zZ;refine h v ab tk cy fM ?_ fun b o bf e=>zZ b o bf (ai b o bf e);have:=T.item i v ab fb aC dM (fun a o f=>cy.cD a o (hle.F a o f)) Qg
 induction aF using cJ.casesOn with
 |one j=>exact dd.mono hle this
 |many is=>obtain⟨us,vals,Qh,ay,au,d',r⟩:=this;exact⟨us,vals,Qh,ay,au,d',r.mono hle⟩
theorem z0{hB st2:St}{cN:a3}{s2:Shared}{h0:Heap}{cc:Addr}{aF:cJ}{target:Expr}{xs:List V}{bq ea wr L:List Addr}{P d5:Nat→Value→Heap→Prop}{cR:Nat→Heap→Prop}(T:lj w A dJ W1 fm' hB h0 cc aF target xs bq ea wr P d5 cR){i:Nat}
  (dF:∀a o,dJ a o→G a o) (R:Rel w ae G W fm st s) (hle:W1.le W) (aL:cR i s.heap) (cv:∀b∈ea,b∈L) (off:∀b∈L,Off G W fm st b) (alive:∀b∈L,∃o,s.heap.get? b=I o) (Qi:W.le cN) (cy:Rel w ae (i1 G (vB s.heap L)) cN fm st2 s2):
  Rel w ae G cN fm st2 s2∧cR i s2.heap∧(∀b∈L,Off G cN fm st2 b)∧∀b∈L,s2.heap.get? b=s.heap.get? b:=by
 refine⟨Rel.Qf R cy,T.K.frame _ _ _ aL fun b bf o e=>?_,fun b bf=>by obtain⟨o,e⟩:=alive b bf;exact cy.zt (vC.mpr ⟨bf,e⟩) (off b bf).g,fun b bf=>?_⟩
 ·rcases T.bq b bf with h|⟨br,f⟩|⟨br,g⟩
  ·exact cy.e3 b o (.inr (vC.mpr ⟨cv b h,e⟩))
  ·have aa:=R.cD b br (hle.F _ _ f);rw[e]at aa;cases aa;exact cy.cD b o (Qi.F _ _ (hle.F _ _ f))
  ·have aa:=R.e3 b br (dF _ _ g);rw[e]at aa;cases aa;exact cy.e3 b o (.inl (dF _ _ g))
 ·refine f7 (alive b bf) fun o e=>?_;erw[e];exact cy.e3 b o (.inr (vC.mpr ⟨bf,e⟩))
end
end
end Mine
end
section
open PySem PySem.W PySem.Calls PyProof.Rows PySem.SeqAt
namespace Mine
noncomputable section
section
variable{prog:Program}{A:Around}{E:Value→Shared→Prop}{R:Result→Shared→Prop}{s:Shared}
theorem Qj{elt target iter:Expr}{ifs:List Expr}{scope:Scope}{pos:Pos}{it acc:Value}{env:Env}(cc:Nat→Shared→Prop)
  (turn:∀n s,cc n s→wpAny (model prog w) A (pyNext it) (fun r s₁=>match r with
   |none=>R (.ok .next) s₁
   |some v=>wpAny (model prog w) A (letOwnedTupleGo target it v) (fun ag s₁'=>wpAny (model prog w) A (assign target env v) (fun ag s₂=>
     wpAny (model prog w) A (forIn ifs true fun c r=>if r=true then do let ok←isTrue c env (eval c env);pure (lQ ok)else pure (lQ r)) (fun ok gO=>
      if ok=true then wpAny (model prog w) A (eval elt env) (fun x pM=>
       wpAny (model prog w) A (call (.builtin "list.append") [acc,x]) (fun ag sX=>∃m,m<n∧cc m sX) bL pM) bL gO
      else∃m,m<n∧cc m gO) bL s₂) bL s₁') bL s₁) bL s)
  (n:Nat) (h:cc n s):
  codeAny (model prog w) A (.compLoop (.ListComp elt [⟨target,iter,ifs,0⟩] scope pos) 0 it acc env) R s:=by
 refine codeAny_loop rfl cc (fun n s q2=>?_) n h;show wpAny _ A ((compTurn (.ListComp elt [⟨target,iter,ifs,0⟩] scope pos) 0 it acc env).onRaise (fun x=>do noteFrame x env;theTreesLotGoes x)) _ _ s;refine wpAny_noted ?_;rw[compTurn_list];refine wpAny_bind (wpAny_standAt (wpAny_bind (wpAny_mono (turn n s q2) (fun r s₁ h₁=>?_) fun ag ag h'=>h'.elim)))
 induction r using gJ with
 |none=>exact wpAny_pure h₁
 |some v=>
  refine wpAny_bind (wpAny_mono h₁ (fun ag s₁' h₁'=>?_) fun ag ag h'=>h'.elim);refine wpAny_bind (wpAny_mono h₁' (fun ag s₂ h₂=>wpAny_bind (wpAny_mono h₂ (fun ok gO vj=>?_) fun ag ag h'=>h'.elim)) fun ag ag h'=>h'.elim)
  induction ok using hL with
  |false=>exact wpAny_pure ⟨rfl,vj⟩
  |true=>exact wpAny_bind (wpAny_bind (wpAny_mono vj (fun x pM Qk=>wpAny_bind (wpAny_mono Qk (fun ag sX Ql=>wpAny_pure (wpAny_pure ⟨rfl,Ql⟩)) fun ag ag h'=>h'.elim)) fun ag ag h'=>h'.elim))
end
end
end Mine
end
section
open PySem PySem.W PySem.Calls PyProof.Rows PySem.SeqAt
namespace Mine
noncomputable section
section
variable{cx:bV}{A:Around}{G dJ:Addr→Obj→Prop}{W W' W1:a3}{fm fm' m4:bS}{st st' st1:St}{s:Shared}
inductive CompI(w:World)(ae:Heap)(G:Addr→Obj→Prop)(W:a3)(fm:bS)(s:Shared)(d6:St)(test:St→Option (Bool×St))(gv:St→Option (V×St))(aF:cJ)(xs aS:List V)(ea:List Addr)(cR:Nat→Heap→Prop)(acc:Addr)(k:Nat)(s':Shared):Prop where
 |mk (i:Nat) (st:St) (W':a3) (done:List V) (vs:List Value) (rest:List V) (e:k=xs.length+1-i) (aw:i≤xs.length) (aN:fh aF test gv (xs.drop i) st=I (rest,d6)) (l:W.le W') (R:Rel w ae G W' fm st s') (aL:cR i s'.heap) (off:∀b∈ea,Off G W' fm st b) (ot:Off G W' fm st acc)
   (pN:s'.heap.PlainList acc (mF vs)) (bO:b5 W' done vs) (sY:done++rest=aS) (z1:vs.length≤i) (o:s'.os=s.os):CompI w ae G W fm s d6 test gv aF xs aS ea cR acc k s'
inductive z2(aF:cJ)(test:St→Option (Bool×St))(gv:St→Option (V×St))(v:V)(vs:List V)(st:St)(aS:List V)(d6:St):Prop where
 |no (st1:St) (ae:hN aF v st=I st1) (st2:St) (a5:test st1=I (false,st2)) (h:fh aF test gv vs st2=I (aS,d6)):z2 aF test gv v vs st aS d6
 |yes (st1:St) (ae:hN aF v st=I st1) (st2:St) (a5:test st1=I (true,st2)) (y:V) (i6:St) (he:gv st2=I (y,i6)) (q3:List V) (h:fh aF test gv vs i6=I (q3,d6)) (e:aS=y::q3):z2 aF test gv v vs st aS d6
theorem F3{aF:cJ}{test:St→Option (Bool×St)}{gv:St→Option (V×St)}{v:V}{vs aS:List V}{d6:St}(h:fh aF test gv (v::vs) st=I (aS,d6)):z2 aF test gv v vs st aS d6:=by
 obtain⟨st1,bf,aa⟩:=aU (show(hN aF v st).bind _=I (aS,d6)from h);obtain⟨b,st2,a5,ab⟩:=b2 aa
 induction b using hL with
 |false=>exact .no st1 bf st2 a5 ab
 |true=>obtain⟨y,i6,he,aq⟩:=b2 (sH ab);obtain⟨q3,aaK,av,ba⟩:=b2 aq;cases ba;exact .yes st1 bf st2 a5 y i6 he q3 av rfl
theorem Qm{elt target iter:Expr}{ifs:List Expr}{scope:Scope}{pos:Pos}{cc:Addr}{aF:cJ}{xs aS:List V}{bq ea wr:List Addr}{P d5:Nat→Value→Heap→Prop}{cR:Nat→Heap→Prop}{hB d6:St}{h0:Heap}{acc:Addr}{kz:Result→Shared→Prop}
  {test:St→Option (Bool×St)} {gv:St→Option (V×St)}
  (T:lj w A dJ W1 m4 hB h0 cc aF target xs bq ea wr P d5 cR) (dF:∀a o,dJ a o→G a o) (hf:dw cx fm) (a5:jX cx target=I aF) (ax:d1 n A)
  (d':∀{G W st s b st'},Rel w ae G W fm st s→test st=I (b,st')→wpAny (model a4 w) A (forIn ifs true fun c r=>if r=true then do let ok←isTrue c fm.env (eval c fm.env);pure (lQ ok)else pure (lQ r)) (fun ok s'=>ok=b∧hy w ae G W fm s st' s') bL s)
  (hS:∀{G W st s v st'},Rel w ae G W fm st s→gv st=I (v,st')→wpAny (model a4 w) A (eval elt fm.env) (d9 w ae G W fm s st' (.v v)) bL s)
  (bw:xs.length≤200000) (R:Rel w ae G W fm st s) (hle:W1.le W) (aL:cR 0 s.heap) (off:∀b∈ea,Off G W fm st b) (ot:Off G W fm st acc) (ou:acc ∉ ea) (pN:s.heap.PlainList acc ([]:List Value).toArray)
  (aN:fh aF test gv xs st=I (aS,d6))
  (el:∀W' s' vs,W.le W'→Rel w ae G W' fm d6 s'→Off G W' fm d6 acc→s'.heap.PlainList acc (mF vs)→b5 W' aS vs→s'.os=s.os→kz (.ok .next) s'):
  codeAny (model a4 w) A (.compLoop (.ListComp elt [⟨target,iter,ifs,0⟩] scope pos) 0 (.ref cc) (.ref acc) fm.env) kz s:=by
 refine Qj (CompI w ae G W fm s d6 test gv aF xs aS ea cR acc) ?_ (xs.length+1) ⟨0,st,W,[],[],aS,rfl,fx _,aN,.rfl,R,aL,off,ot,pN,.nil,rfl,bE _,rfl⟩;clear aN R aL off ot pN;rintro k s' ⟨i,st,W',done,vs,rest,rfl,aw,aN,kE,R,aL,off,ot,pN,bO,sY,z1,aO⟩;have F4:acc ∉ wr:=fun h=>ou (T.wr _ h);refine bZ (fun dQ:i<xs.length=>?_) (fun dQ=>?_)
 ·have aC:xs[i]? =I xs[i]:=gp dQ;rw[CP dQ]at aN;have ib:∃st1,hN aF xs[i] st=I st1:=by
   rcases F3 aN with⟨st1,bf,_,_,_⟩|⟨st1,bf,_,_,_,_,_,_,_,_⟩<;>exact⟨st1,bf⟩
  refine F1 T aC (ib.elim fun ag h=>FZ h) R (hle.trans kE) aL off (Q2:=fun v s'=>wpAny (model a4 w) A (assign target fm.env v) (fun ag s₂=>
     wpAny (model a4 w) A (forIn ifs true fun c r=>if r=true then do let ok←isTrue c fm.env (eval c fm.env);pure (lQ ok)else pure (lQ r)) (fun ok gO=>
      if ok=true then wpAny (model a4 w) A (eval elt fm.env) (fun x pM=>
       wpAny (model a4 w) A (call (.builtin "list.append") [.ref acc,x]) (fun ag sX=>∃m,m<xs.length+1-i∧CompI w ae G W fm s d6 test gv aF xs aS ea cR acc m sX) bL pM) bL gO
      else∃m,m<xs.length+1-i∧CompI w ae G W fm s d6 test gv aF xs aS ea cR acc m gO) bL s₂) bL s') (fun v s₁ q=>q) fun v aa tk aZ q4 hit ai=>?_
  have F5:aa.PlainList acc (mF vs):=pN.at fun o e=>ai _ o F4 e;clear ib ai pN R aL;have cv:∀b∈acc::ea,Off G W' fm st b:=LO.mpr ⟨ot,off⟩;have alive:∀b∈acc::ea,∃o,aa.get? b=I o:=LO.mpr ⟨by obtain⟨k,e⟩:=F5;exact⟨_,e⟩,T.alive _ _ q4⟩;have vE:∀{ab:Heap},ab.get? acc=aa.get? acc→ab.PlainList acc (mF vs):=fun e=>by obtain⟨k,ay⟩:=F5;exact⟨k,e.trans ay⟩
  have vF:=aZ.F0 cv;have lt:xs.length+1-(i+1)<xs.length+1-i:=ux (lO dQ) (kk i)
  rcases F3 aN with⟨st1,ib,st2,z3,z4⟩|⟨st1,ib,st2,z3,y,i6,mg,q3,z4,aV⟩
  ·refine wpAny_mono (zY ax.h vF hf a5 hit ib) (fun ag s2 q=>l6 (d' q.1 z3) fun s3 h9 fa ek gd=>?_) fun ag ag x=>x;erw[if_neg rR];obtain⟨jx,z5,vG,same⟩:=z0 T dF aZ (hle.trans kE) q4 (fun b h=>.tail _ h) cv alive fa ek;exact⟨_,lt,i+1,st2,h9,done,vs,rest,rfl,dQ,z4,kE.trans fa,jx,z5,fun b h=>vG b (.tail _ h),vG acc (.head _),vE (same acc (.head _)),bO.mono fa,sY,rM z1,gd.trans (q.2.trans aO)⟩
  ·refine wpAny_mono (zY ax.h vF hf a5 hit ib) (fun ag s2 q=>l6 (d' q.1 z3) fun s3 h9 fa ek gd=>?_) fun ag ag x=>x;erw[if_pos rfl];refine dm (hS ek mg) fun u s4 F6 z6 jx z7 pE=>?_;have pO:=fa.trans z6;obtain⟨z8,Qn,F7,same⟩:=z0 T dF aZ (hle.trans kE) q4 (fun b h=>.tail _ h) cv alive pO jx;have vH:=F7 acc (.head _);have F8:=kE.trans pO;refine wpAny_list_append_plain (vE (same acc (.head _))) (fun h' dp fL=>?_) (by erw[jh,sizeLine_eq];exact cz (bR ‹_› (bR ‹_› ‹_›)) rfl);refine⟨_,lt,i+1,i6,F6,done++[y],vs++[u],q3,rfl,dQ,z4,F8,z8.vk (k:=s4.toks) vH fL,T.K.frame _ _ _ Qn fun b bf o e=>?_,fun b h=>F7 b (.tail _ h),vH,List.push_toArray vs u▸dp,(bO.mono pO).append (.cons z7 .nil),(eR ..).trans ((congrArg (done++ ·) aV).symm.trans sY),bR (eQ b4) (jf z1),pE.trans (gd.trans (q.2.trans aO))⟩;have i0:b≠acc:=fun e=>by
    have i4:acc∈bq:=e▸bf
    rcases T.bq _ i4 with h|⟨br,f⟩|⟨br,g⟩
    ·exact ou h
    ·exact vH.f _ ((hle.trans F8).F _ _ f)
    ·exact vH.g _ (dF _ _ g)
   exact(fL.2 b i0).trans e
 ·have e:i=xs.length:=rU aw (kW.mp dQ);rw[e,List.drop_length]at aN;rw[e]at aL;cases aN;rw[ei]at sY;subst sY;exact T.K.done s' _ _ aL fun h' tk ai=>el W' _ vs kE (R.vD (k:=tk) (fun b bf=>off b (T.wr b bf)) ai) ot (pN.at fun o e=>ai _ o F4 e) bO aO
end
end
end Mine
end
section
open PySem PySem.W PySem.Calls PyProof.Rows PySem.SeqAt
namespace Mine
noncomputable section
theorem z9{α:Type}[BEq α][LawfulBEq α]:∀{l:List α},qJ l=true→l.Nodup:=by
 intro aT
 induction aT with
 |nil=>intro _;exact .nil
 |cons a r aD=>intro h;refine bC (fun aa ab=>?_) (cC.mp h);exact jg.mpr ⟨fun hm=>by(rw[qs.mpr hm]at aa;cases aa),aD ab⟩
theorem ll{β:Type}:∀{l:List (Str×β)} {x:Str} {k:β},(l.map (·.1)).Nodup→(x,k)∈l→l.lookup x=I k:=by
 intro aT
 induction aT with
 |nil=>intro _ _ _ _;first|contradiction|(intros;contradiction)|(simp at*;done)
 |cons dA r aD=>
  obtain⟨y,j⟩:=dA;intro x k h m;rw[g0,jg]at h;erw[hs];refine eF (ec.mp m) (fun e=>?_) (fun F9=>?_)
  ·cases e;simp
  ·have:(x==y)=false:=by erw[beq_eq_false_iff_ne];rintro rfl;exact h.1 (f9.mpr ⟨(x,k),F9,rfl⟩)
   erw[this];exact aD h.2 F9
theorem vI{β:Type}:∀{l:List (Str×β)} {x:Str} {k:β},l.lookup x=I k→(x,k)∈l:=by
 intro aT
 induction aT with
 |nil=>intro _ _ _;first|contradiction|(intros;contradiction)|(simp at*;done)
 |cons dA r aD=>
  obtain⟨y,j⟩:=dA;intro x k h;rw[hs]at h;cases e:(x==y)with
  |true=>rw[e]at h;cases h;erw[beq_iff_eq.mp e];exact .head _
  |false=>rw[e]at h;exact .tail _ (aD h)
theorem Qo{l:List (Str×Nat)}(h:(l.map (·.2)).Nodup):∀{x y:Str} {i:Nat},(x,i)∈l→(y,i)∈l→x=y:=by
 induction l with
 |nil=>intro x y i m;cases m
 |cons a r aG=>
  intro x y i hR ma;rw[g0,jg]at h;refine eF (ec.mp hR) (fun ay=>?_) (fun dH=>?_)<;>refine eF (ec.mp ma) (fun au=>?_) (fun ft=>?_)
  ·replace au:=(ay).symm▸au;exact(congrArg CI au).symm
  ·subst ay;exact absurd (f9.mpr ⟨(y,i),ft,rfl⟩:i∈r.map (·.2)) h.1
  ·subst au;exact absurd (f9.mpr ⟨(x,i),dH,rfl⟩:i∈r.map (·.2)) h.1
  ·exact aG h.2 dH ft
structure kF(cx:bV)(scope:Scope)(tgt:Expr):Prop where
 kind:scope.kind= .function
 Qp:∀y∈scope.names,y.2≠ .cell
 nd:(scope.names.map (·.1)).Nodup
 aF:∀x∈pn tgt,scope.names.lookup x=I .local
 Qq:((d8 cx scope tgt).vars.map (·.2)).Nodup
 fr:∀y∈scope.names,y.2= .free→y.1∈cx.cells∧y.1 ∉ cx.frees∧(∃i,cx.var y.1=I i)∧(y.1==("__classdict__":Str))=false
theorem Qr{cx:bV}{scope:Scope}{tgt:Expr}(h:u0 cx scope tgt=true):kF cx scope tgt:=by
 unfold u0 at h;simp only[uy,h2,qv,beq_iff_eq,bne_iff_ne,ne_eq,uz,qs]at h;obtain⟨⟨⟨⟨⟨⟨aa,ab⟩,aq⟩,ba⟩,b0⟩,d2⟩,fk⟩:=h;refine⟨aa,ab,z9 aq,ba,z9 d2,fun y aV e=>?_⟩
 rcases fk y aV with h|⟨⟨⟨a,b⟩,c⟩,d⟩
 ·exact absurd e h
 ·exact⟨a,fun hm=>by(rw[qs.mpr hm]at b;cases b),LP.mp c,d⟩
theorem kF.locals{cx:bV}{scope:Scope}{tgt:Expr}(h:kF cx scope tgt):∀y∈scope.names,y.2= .local→scope.names.lookup y.1=I .local:=fun y aV e=>ll h.nd (by erw[←e];exact aV)
theorem Aa{cx:bV}{scope:Scope}{tgt:Expr}{x:Str}:x∈(d8 cx scope tgt).frees↔(x,NameKind.free)∈scope.names:=by
 simp only[d8,qr]
 constructor
 ·rintro⟨⟨y,k⟩,aV,e⟩
  split at e
  ·rename_i ai;cases e;erw[←beq_iff_eq.mp ai];exact aV
  ·cases e
 ·intro h;exact⟨_,h,by simp⟩
theorem Qs{cx:bV}{scope:Scope}{tgt:Expr}{x:Str}:x∈(d8 cx scope tgt).sh↔(x,NameKind.globalImplicit)∈scope.names:=by
 simp only[d8,qr]
 constructor
 ·rintro⟨⟨y,k⟩,aV,e⟩
  split at e
  ·rename_i ai;cases e;erw[←beq_iff_eq.mp ai];exact aV
  ·cases e
 ·intro h;exact⟨_,h,by simp⟩
theorem Qt{cx:bV}{scope:Scope}{tgt:Expr}{x:Str}{i:Nat}(h:(d8 cx scope tgt).vars.lookup x=I i):(x∈pn tgt∧cx.yz≤i∧i<cx.yz+(pn tgt).length)∨((x,NameKind.free)∈scope.names∧cx.var x=I i):=by
 have m:=vI h;simp only[d8,dR,f9,qr]at m
 rcases m with⟨⟨y,j⟩,aV,e⟩|⟨⟨y,k⟩,aV,e⟩
 ·cases e;obtain⟨a,b,c⟩:=List.mem_zipIdx aV;exact .inl ⟨by erw[c];exact uu _,f6 _ _,by lia⟩
 ·split at e
  ·rename_i ai;obtain⟨j,aa,ab⟩:=omap e;cases ab;exact .inr ⟨by erw[←beq_iff_eq.mp ai];exact aV,aa⟩
  ·cases e
section
variable{cx:bV}{A:Around}{G dJ:Addr→Obj→Prop}{W W' W1:a3}{fm fm' m4:bS}{st st' st1:St}{s:Shared}
theorem Qu{env:Env}(ai:env.scope.kind= .function):∀{names:List (Str×NameKind)} {x:Str},names.lookup x=I .free→env.kindOf x=I .cell→(names.map fun(n,k)=>if(k==NameKind.free&&env.scope.kind== .function&&env.kindOf n==I .cell)then(n,NameKind.cell)else(n,k)).lookup x=I .cell:=by
 intro aT
 induction aT with
 |nil=>intro _ h _;simp at h
 |cons dA r aD=>
  obtain⟨m,k⟩:=dA;intro x h aC;show List.lookup x ((if(k==NameKind.free&&env.scope.kind== .function&&env.kindOf m==I .cell)=true then(m,NameKind.cell)else(m,k))::_)=_;cases he:x==m with
  |true=>simp only[hs,he]at h;cases h;replace aC:=(beq_iff_eq.mp he)▸aC;erw[if_pos (by simp[ai,aC]),hs,he]
  |false=>
   simp only[hs,he]at h;have aG:=aD h aC;refine Mine.eT (fun h=>?_) (fun h=>?_)
   ·erw[hs,he];exact aG
   ·erw[hs,he];exact aG
theorem Qv{env:Env}{ej:NameKind}(Ab:ej≠ .free):∀{names:List (Str×NameKind)} {x:Str},names.lookup x=I ej→(names.map fun(n,k)=>if(k==NameKind.free&&env.scope.kind== .function&&env.kindOf n==I .cell)then(n,NameKind.cell)else(n,k)).lookup x=I ej:=by
 intro aT
 induction aT with
 |nil=>intro _ h;simp at h
 |cons dA r aD=>
  obtain⟨m,k⟩:=dA;intro x h;show List.lookup x ((if(k==NameKind.free&&env.scope.kind== .function&&env.kindOf m==I .cell)=true then(m,NameKind.cell)else(m,k))::_)=_;cases he:x==m with
  |true=>simp only[hs,he]at h;cases h;erw[if_neg (by simp[Ab]),hs,he]
  |false=>
   simp only[hs,he]at h;have aG:=aD h;refine Mine.eT (fun h=>?_) (fun h=>?_)
   ·erw[hs,he];exact aG
   ·erw[hs,he];exact aG
def jy(cx:bV)(scope:Scope)(tgt:Expr)(cl:List (Str×Addr))(c:Addr)(fm:bS):bS:=⟨compEnvC scope cl c fm.env,(d8 cx scope tgt).vars,fm.bd,(d8 cx scope tgt).frees⟩
theorem sZ{scope:Scope}{tgt:Expr}{cl:List (Str×Addr)}{c:Addr}(ok:kF cx scope tgt){x:Str}{i:Nat}(h:(d8 cx scope tgt).vars.lookup x=I i):
  (x∈pn tgt∧(jy cx scope tgt cl c fm).e2 x=I .local)∨((x,NameKind.free)∈scope.names∧cx.var x=I i∧(jy cx scope tgt cl c fm).e2 x=I .free):=by
 rcases Qt h with⟨h,_⟩|⟨aa,ab⟩
 ·refine .inl ⟨h,?_⟩;have ar:=ok.aF x h;unfold bS.e2;rw[if_neg ?_]
  ·exact lookup_relabel_local ar
  ·intro hm;have:=ll ok.nd (Aa (cx:=cx) (tgt:=tgt).mp hm);rw[ar]at this;cases this
 ·refine .inr ⟨aa,ab,?_⟩;unfold bS.e2;rw[if_pos];exact Aa (cx:=cx) (tgt:=tgt).mpr aa
theorem Qw(hf:dw cx fm){scope:Scope}{tgt:Expr}(cl:List (Str×Addr))(c:Addr)(ok:kF cx scope tgt):dw (d8 cx scope tgt) (jy cx scope tgt cl c fm) where
 vars:=rfl
 kind:=ok.kind
 ej:=fun x i h=>by
  rcases sZ (fm:=fm) (cl:=cl) (c:=c) ok h with⟨_,h⟩|⟨aa,ab,aq⟩
  ·exact .inl h
  ·obtain⟨a,b,_,d⟩:=ok.fr _ aa rfl;exact .inr (.inr ⟨aq,.inr (Qu hf.kind (ll ok.nd aa) (hf.sD x a)),Aa.mpr aa⟩)
 inj:=fun x y i aa ab=>Qo ok.Qq (vI aa) (vI ab)
 apart:=fun x y i j dr aa ab aq ba b0 d2=>by
  rcases sZ (fm:=fm) (cl:=cl) (c:=c) ok aa with⟨_,h⟩|⟨_,_,h⟩<;>(rw[h]at b0;cases b0)
 sD:=fun x h=>by simp[d8]at h
 gl:=fun x h=>Qv (by decide) (ll ok.nd (Qs.mp h))
 glob:=hf.glob
 blt:=hf.blt
theorem Qx{env:Env}:∀{names:List (Str×NameKind)} {acc:List (Str×Addr)},(∀y∈names,y.2= .free→∃c,env.cells.lookup y.1=I c)→(names.map (·.1)).Nodup→∃cl,(forIn names acc fun x r=>match x with|(name,kind)=>if(kind== .free)=true then do let c←cellOf env name;pure (lQ ((name,c)::r))else pure (lQ r))=(pure cl:Sem (List (Str×Addr)))∧(∀y∈names,y.2= .free→cl.lookup y.1=env.cells.lookup y.1)∧∀y,y ∉ names.map (·.1)→cl.lookup y=acc.lookup y:=by
 intro aT
 induction aT with
 |nil=>intro acc _ _;exact⟨acc,rfl,fun ag h=>(nomatch h),fun ag ag=>rfl⟩
 |cons dA r aD=>
  obtain⟨m,k⟩:=dA;intro acc h aA;rw[g0,jg]at aA;refine bZ (fun ai:k= .free=>?_) (fun ai=>?_)
  ·subst ai;obtain⟨c,ah⟩:=h _ (.head _) rfl;obtain⟨cl,e,a,b⟩:=aD (fun y aV=>h y (.tail _ aV)) aA.2;refine⟨cl,?_,fun y aV hf=>?_,fun y aV=>?_⟩
   ·erw[LQ];simp only[beq_self_eq_true,if_true,cellOf,ah,pure_bind];exact e
   ·rcases ec.mp aV with rfl|aV
    ·erw[b _ aA.1,hs];simp[ah]
    ·exact a y aV hf
   ·rw[g0,ec,not_or]at aV;erw[b y aV.2,hs,beq_eq_false_iff_ne.mpr aV.1]
  ·obtain⟨cl,e,a,b⟩:=aD (fun y aV=>h y (.tail _ aV)) aA.2;refine⟨cl,?_,fun y aV hf=>?_,fun y aV=>?_⟩
   ·erw[LQ];have:(k==NameKind.free)=false:=beq_eq_false_iff_ne.mpr ai;simp only[this,Bool.false_eq_true,if_false,pure_bind];exact e
   ·rcases ec.mp aV with rfl|aV
    ·exact absurd hf ai
    ·exact a y aV hf
   ·rw[g0,ec,not_or]at aV;exact b y aV.2
theorem Qy{scope:Scope}{tgt:Expr}(hf:dw cx fm)(R:Rel w ae G W fm st s)(ok:kF cx scope tgt):∃cl,closureFor scope fm.env=pure cl∧∀x,(x,NameKind.free)∈scope.names→cl.lookup x=fm.env.cells.lookup x:=by
 have Qz:∀y∈scope.names,y.2= .free→∃c,fm.env.cells.lookup y.1=I c:=by
  rintro⟨x,k⟩ aV rfl;obtain⟨a,b,⟨i,aw⟩,d⟩:=ok.fr _ aV rfl;refine bC (fun aw ag=>?_) (u' aw)
  rcases hf.ej x i aw with h|h|⟨_,_,h⟩
  ·have:=bS.n4 h (by decide);rw[hf.sD x a]at this;cases this
  ·obtain⟨c,_,e,_⟩:=R.jq x i (by erw[hf.vars];exact aw) h;exact⟨c,e⟩
  ·exact absurd h b
 refine eA fun cF=>?_;obtain⟨cl,e,a,_⟩:=Qx (env:=fm.env) (names:=scope.names) (acc:=[]) Qz ok.nd;refine cF ?_;refine⟨cl,?_,fun x aC=>a _ aC rfl⟩;unfold closureFor;erw[←bind_pure (pure cl:Sem (List (Str×Addr))),←e]
end
end
end Mine
end
section
open PySem PySem.W PySem.Calls PyProof.Rows PySem.SeqAt
namespace Mine
noncomputable section
noncomputable def vJ:cJ→List Nat
 | .one i=>[i]
 | .many is=>is
theorem QA{cx:bV}{es:List Expr}:∀{is:List Nat},pk cx es=I is→∀x∈es.filterMap (fun(e:Expr)=>match e with| .Name x _=>I x|_=>J),∃i∈is,cx.vars.lookup x=I i:=by
 induction es with
 |nil=>intro is _ x aC;cases aC
 |cons e es aG=>
  intro is h x aC;obtain⟨y,p,i,r,rfl,aa,ab,rfl⟩:=zW h
  rcases ec.mp (show x∈y::es.filterMap _ from aC)with e|aC
  ·exact⟨i,.head _,e▸(q1 aa).1⟩
  ·obtain⟨j,a',e⟩:=aG ab x aC;exact⟨j,.tail _ a',e⟩
theorem QB{cx:bV}{t:Expr}{aF:cJ}(h:jX cx t=I aF){x:Str}(aC:x∈pn t):∃i∈vJ aF,cx.vars.lookup x=I i:=by
 rcases zP h with⟨y,p,rfl,h⟩|⟨es,k,p,rfl,h⟩
 ·obtain⟨i,aw,rfl⟩:=omap h;exact⟨i,.head _,dY.mp (show x∈[y]from aC)▸(q1 aw).1⟩
 ·obtain⟨is,aw,rfl⟩:=omap h;exact QA aw x aC
theorem QC{l:List (Option X)}{j i:Nat}{v:X}(h:(l.set j J)[i]? =I (I v)):l[i]? =I (I v)∧j≠i:=by
 rw[Eg]at h
 rcases pw h with⟨_,h⟩|⟨aA,h⟩
 ·cases Option.some.inj h
 ·exact⟨h,fun e=>aA ⟨e,e▸(d7.mp h).1⟩⟩
theorem QD(is:List Nat):∀(st:St),(is.foldl St.nX st).heap=st.heap∧(is.foldl St.nX st).tag=st.tag∧(is.foldl St.nX st).base=st.base∧(∀(i:Nat) v,(is.foldl St.nX st).loc[i]? =I (I v)→st.loc[i]? =I (I v)∧i ∉ is):=by
 induction is with
 |nil=>exact fun st=>⟨rfl,rfl,rfl,fun i v h=>⟨h,fun h=>nomatch h⟩⟩
 |cons j is aG=>intro st;obtain⟨a,b,c,d⟩:=aG (st.nX j);refine⟨a,b,c,fun i v h=>?_⟩;refine bC (fun aa ab=>?_) (d i v h);refine bC (fun aa n=>?_) (QC aa);exact⟨aa,fun hm=>(ec.mp hm).elim (fun e=>n e.symm) ab⟩
theorem vK(aF:cJ)(st:St):g9 aF st={st with loc:=(g9 aF st).loc}∧∀(i:Nat) v,(g9 aF st).loc[i]? =I (I v)→st.loc[i]? =I (I v)∧i ∉ vJ aF:=by
 have e:g9 aF st=(vJ aF).foldl St.nX st:=by induction aF using cJ.casesOn<;>rfl
 refine eA fun cF=>?_;obtain⟨a,b,c,d⟩:=QD (vJ aF) st;refine cF ?_;erw[e];refine⟨?_,d⟩;erw[←a,←b,←c]
section
variable{cx:bV}{A:Around}{G dJ:Addr→Obj→Prop}{W W' W1:a3}{fm fm' m4:bS}{st st' st1 st2 d6:St}{s s₂:Shared}
theorem QE{E:List (Addr×Obj)}{x:X}{xs:List V}(L:FQ G dJ W1 fm x xs)(hle:W1.le W')(R:Rel w ae (i1 dJ E) W' fm st s)(h:st.back x xs=I st2)(hS:∀a o,(a,o)∈E→∀br,¬dJ a br):Rel w ae (i1 G E) W' fm st2 s:=by
 induction x using X.casesOn with
 |v a=>cases h;cases L;exact R
 |cell i=>
  obtain⟨q,vs,k,aE,e,bO,rfl,dF,cv⟩:=L;obtain⟨_,aK,h⟩:=omap (show((st.heap[i]?).bind uU).map _=I st2 from h);obtain⟨c,ah,aK⟩:=aU aK
  induction c using Cell.casesOn<;>cases aK
  cases h;have QF:(i1 (fun a br=>G a br∨(a=q.2∧br={cls:=.type "list",data:=.seq (mF vs) k})) E)=fun a br=>i1 G E a br∨(a=q.2∧br={cls:=.type "list",data:=.seq (mF vs) k}):=funext fun a=>funext fun br=>propext or_right_comm;exact(QF▸R).back ah (l4 hle.p aE) ⟨e,vs,⟨k,R.e3 _ _ (.inl (.inr ⟨rfl,rfl⟩))⟩,bO.mono hle⟩ (fun o g=>g.elim (dF o) fun g=>hS _ _ g _ (.inr ⟨rfl,rfl⟩)) cv
theorem F'{scope:Scope}{target:Expr}{cl:List (Str×Addr)}{c:Addr}{x:Str}{i:Nat}(ok:kF cx scope target)(aa:(jy cx scope target cl c fm).vars.lookup x=I i)(ab:(jy cx scope target cl c fm).e2 x=I .cell):False:=by
 rcases sZ (fm:=fm) (cl:=cl) (c:=c) ok aa with⟨_,h⟩|⟨_,_,h⟩<;>cases ab.symm.trans h
theorem Ga{scope:Scope}{target:Expr}{cl:List (Str×Addr)}{c a:Addr}(ok:kF cx scope target)(h:hv (jy cx scope target cl c fm) a):a=c:=by
 rcases h with e|⟨x,i,aa,ab,_⟩
 ·exact e
 ·exact(F' ok aa ab).elim
theorem QG(aF:cJ)(st:St):(g9 aF st).heap=st.heap:=by erw[(vK aF st).1]
theorem Gb{scope:Scope}{target:Expr}{cl:List (Str×Addr)}{c b:Addr}{aF:cJ}{H:Heap}(ok:kF cx scope target)(off:Off dJ W1 fm st1 b)(QH:b≠c):Off (i3 dJ fm H) W1 (jy cx scope target cl c fm) (g9 aF st1) b:=by
 refine⟨?_,off.f,fun o g=>g.elim (off.g o) fun g=>off.o g.zu⟩;rintro(h|⟨i,d,q,l,e⟩)
 ·exact QH (Ga ok h)
 ·exact off.o (.hp i d q (QG aF st1▸l) e)
theorem QI{scope:Scope}{target:Expr}{cl:List (Str×Addr)}{c:Addr}{aF:cJ}{h₁:Heap}{m:Str→Option Value}(ok:kF cx scope target)(hf:dw cx fm)(R:Rel w ae dJ W1 fm st1 s)(a5:jX (d8 cx scope target) target=I aF)(mV:∀x,(x,NameKind.free)∈scope.names→cl.lookup x=fm.env.cells.lookup x)
  (s6:h₁.Ns c m):ky (i3 dJ fm s.heap) W1 (jy cx scope target cl c fm) (g9 aF st1).loc h₁:=by
 refine⟨⟨_,s6,fun x i v aa ab aq=>?_⟩,fun x i aa ab=>(F' ok aa ab).elim,fun x i aa ab=>?_⟩
 ·rcases sZ (fm:=fm) (cl:=cl) (c:=c) ok aa with⟨h,_⟩|⟨_,_,h⟩
  ·obtain⟨j,a',e⟩:=QB a5 h;cases (show(d8 cx scope target).vars.lookup x=I i from aa).symm.trans e;exact absurd a' ((vK aF st1).2 i v aq).2
  ·cases ab.symm.trans h
 ·rcases sZ (fm:=fm) (cl:=cl) (c:=c) ok aa with⟨_,h⟩|⟨aq,ba,_⟩
  ·cases ab.symm.trans h
  ·obtain⟨a,b,_,_⟩:=ok.fr _ aq rfl;refine bC (fun aJ ag=>?_) (u' ba);have ai:fm.e2 x=I .cell:=by
    rcases hf.ej x i aJ with h|h|⟨_,_,h⟩
    ·cases (bS.n4 h (by decide)).symm.trans (hf.sD x a)
    ·exact h
    ·exact absurd h b
   have vL:fm.vars.lookup x=I i:=by erw[hf.vars];exact aJ
   obtain⟨dr,v,e,_,⟨o,aO,hd⟩,r⟩:=R.jq x i vL ai;exact⟨dr,v,o,(mV x aq).trans e,.inr ⟨.cell x i vL ai e,aO⟩,hd,fun y aV=>r y ((vK aF st1).2 i y aV).1⟩
theorem QJ{elt target iter:Expr}{ifs:List Expr}{scope:Scope}{pos:Pos}{cc:Addr}{aF:cJ}{xs aS:List V}{bq ea wr:List Addr}{P d5:Nat→Value→Heap→Prop}{cR:Nat→Heap→Prop}{cl:List (Str×Addr)}
  {RR:Value→Addr→Result→Shared→Prop} {test:St→Option (Bool×St)} {gv:St→Option (V×St)}
  (ok:kF cx scope target) (hf:dw cx fm) (R:Rel w ae dJ W1 fm st1 s₂) (T:lj w A dJ W1 fm st1 s₂.heap cc aF target xs bq ea wr P d5 cR) (a5:jX (d8 cx scope target) target=I aF) (ax:d1 n A)
  (mV:∀x,(x,NameKind.free)∈scope.names→cl.lookup x=fm.env.cells.lookup x)
  (d':∀{fm' G W st s b st'},dw (d8 cx scope target) fm'→Rel w ae G W fm' st s→test st=I (b,st')→wpAny (model a4 w) A (forIn ifs true fun c r=>if r=true then do let ok←isTrue c fm'.env (eval c fm'.env);pure (lQ ok)else pure (lQ r)) (fun ok s'=>ok=b∧hy w ae G W fm' s st' s') bL s)
  (hS:∀{fm' G W st s v st'},dw (d8 cx scope target) fm'→Rel w ae G W fm' st s→gv st=I (v,st')→wpAny (model a4 w) A (eval elt fm'.env) (d9 w ae G W fm' s st' (.v v)) bL s)
  (bw:xs.length≤200000) (aN:fh aF test gv xs (g9 aF st1)=I (aS,d6)) (s7:d6.base=st1.base)
  (QK:∀acc c gQ m W' s',W1.le W'→Rel w ae (i1 dJ [(c,gQ)]) W' fm {d6 with loc:=st1.loc} s'→NsObj gQ m→(∀o,¬dJ c o)→dd W' (.lst aS) (.ref acc)→s'.os=s₂.os→RR (.ref acc) c (.ok .next) s'):
  wpAny (model a4 w) A (newList []) (fun acc gO=>wpAny (model a4 w) A (newFunctionEnv scope fm.env.globals cl [] fm.env.qual J .none (I fm.env)) (fun Gd pM=>
   codeAny (model a4 w) A (.compStart (.ListComp elt [⟨target,iter,ifs,0⟩] scope pos) 0 (.ref cc) acc {Gd with scope:=relabel scope fm.env}) (RR acc Gd.locals) pM) bL gO) bL s₂:=by
 refine wpAny_newObj_type (wpAny_newFunctionEnv ok.Qp (by intro y aV;simp at aV) (fun h₁ hns₁ hsb₁=>?_) ok.kind)
 dsimp only at hns₁ hsb₁⊢
 generalize Ac:s₂.heap.push {cls:=.type "list",dict:=J,data:=.seq ([]:List Value).toArray}=vM at hns₁ hsb₁⊢;have lp:vM.objs.size=s₂.heap.objs.size+1:=by erw[←Ac,Heap.size_push]
 have vN:s₂.heap.objs.size≠vM.objs.size:=by erw[lp];exact ki (kk _)
 have old:∀b o,s₂.heap.get? b=I o→h₁.get? b=I o:=fun b o e=>hsb₁.extBut b o (by erw[lp];exact ki (lO (Heap.lt_size e))) (Heap.get?_push_of_some _ (Ac▸Heap.get?_push_of_some _ e));have ou:h₁.PlainList s₂.heap.objs.size ([]:List Value).toArray:=⟨_,hsb₁.extBut _ _ vN (Heap.get?_push_of_some _ (Ac▸Heap.get?_push_size _ rfl))⟩
 have Ad:s₂.heap.get? vM.objs.size=J:=Heap.get?_none_of_le (by erw[lp];exact lN _);generalize qN:vM.objs.size=c at hns₁ hsb₁ lp vN Ad⊢;have me:dw (d8 cx scope target) (jy cx scope target cl c fm):=Qw hf cl c ok;refine bC (fun ay au=>?_) (vK aF st1);have QL:fm.env.locals≤c:=by obtain⟨o,aO⟩:=R.lo.alive (.loc rfl);exact lp▸c' (lO (Heap.lt_size aO))
 have Ae:Rel w ae (i3 dJ fm s₂.heap) W1 (jy cx scope target cl c fm) (g9 aF st1) {s₂ with heap:=h₁,toks:=s₂.toks+([]:List (Str×Value)).length}:=ay▸R.enter (fm':=jy cx scope target cl c fm) (loc':=(g9 aF st1).loc) (b':=st1.base) old (fun a f=>Ga ok f▸Ad) (QI ok hf R a5 mV hns₁) (fun i aw=>bE _) R.cP R.n5 (bR R.above QL)
 have QM:∀b,(∃o,s₂.heap.get? b=I o)→Off dJ W1 fm st1 b→Off (i3 dJ fm s₂.heap) W1 (jy cx scope target cl c fm) (g9 aF st1) b:=fun b bf off=>Gb ok off fun e=>bf.elim fun o aO=>mS Ad (e▸aO);have hst₁:cR 0 h₁:=T.K.frame _ _ _ T.hB fun b ag o e=>old b o e;have ot:Off (i3 dJ fm s₂.heap) W1 (jy cx scope target cl c fm) (g9 aF st1) s₂.heap.objs.size:=Gb ok (R.h7 (bE _)) vN;have loop:∀gO:Shared,gO={s₂ with heap:=h₁,toks:=s₂.toks+([]:List (Str×Value)).length}→codeAny (model a4 w) A (.compLoop (.ListComp elt [⟨target,iter,ifs,0⟩] scope pos) 0 (.ref cc) (.ref s₂.heap.objs.size) (compEnvC scope cl c fm.env)) (RR (.ref s₂.heap.objs.size) c) gO:=by
  rintro gO rfl;refine Qm (fm:=jy cx scope target cl c fm) (G:=i3 dJ fm s₂.heap) T (fun ag ag g=>.inl g) me a5 ax (fun R h=>d' me R h) (fun R h=>hS me R h) bw Ae .rfl hst₁ (fun b bf=>QM b (T.alive 0 _ T.hB b bf) (T.off b bf)) ot (fun hm=>?_) ou aN ?_
  ·obtain⟨o,aO⟩:=T.alive 0 _ T.hB _ hm;exact qu _ (Heap.lt_size aO)
  ·intro W' s' vs hle de vO pl bO aO;have vP:=R.leave (H:=d6.heap) (P:=W'.p) hle de de.len id hle.p (fun{i c q} ag iX=>s7▸iX) (s7▸de.cP);have QN:({st1 with heap:=d6.heap,tag:=d6.tag}:St)={d6 with loc:=st1.loc}:=by erw[←s7]
   rw[QN]at vP;have Ge:=de.eB c (.fr (.loc rfl));obtain⟨m,hm,_⟩:=de.ns;obtain⟨gQ,QO,mh⟩:=Ns.obj hm;have Af:Off dJ W' fm {d6 with loc:=st1.loc} c:=by
    refine⟨?_,de.fU c (.fr (.loc rfl)),fun o g=>Ge o (.inl g)⟩;rintro(h|⟨i,d,q,l,e⟩)
    ·exact(R.owned h).elim fun o g=>Ge o (.inr g)
    ·exact de.g' l (.loc e)
   have vF:=vP.i2 (E:=[(c,gQ)]) fun a o hm=>by refine bC (fun ay au=>?_) (Prod.mk.inj (dY.mp hm));exact⟨ay▸au▸QO,ay▸Af.o,ay▸Af.f⟩
   obtain⟨k,iD⟩:=pl;have QP:Off (i1 dJ [(c,gQ)]) W' fm {d6 with loc:=st1.loc} s₂.heap.objs.size:=by
    refine⟨?_,vO.f,fun br g=>g.elim (fun g=>vO.g br (.inl g)) fun g=>vN (Prod.mk.inj (dY.mp g)).1⟩;rintro(h|⟨i,d,q,l,e⟩)
    ·exact(R.owned h).elim fun o g=>vO.g o (.inr g)
    ·exact vO.o (.hp i d q l e)
   exact QK _ _ gQ m _ s' (hle.trans a3.gE) (vF.mT QP iD) mh Af.g (.lst (.inr ⟨rfl,rfl⟩) ⟨k,rfl⟩ bO.1 (bO.mono a3.gE).2) aO
 subst qN;exact codeAny_compStart_list (loop _ rfl) (T.self _ _ _ hst₁ (loop _ rfl))
end
end
end Mine
end
section
open PySem PySem.W PySem.Calls PyProof.Rows PySem.SeqAt
namespace Mine
noncomputable section
section
variable{cx:bV}{A:Around}{G dJ:Addr→Obj→Prop}{W W' W1:a3}{fm fm' m4:bS}{st st' st1 st2 d6:St}{s s₂:Shared}
theorem QQ{x:X}{xs:List V}(h:st.lend x=I (xs,st')):xs.length≤200000:=by
 have key:∀{aS:List V} {st2:St},(if fit aS.length then I (aS,st2)else J)=I (xs,st')→xs.length≤200000:=fun h=>by obtain⟨hf,e⟩:=c0 h;cases e;exact bR (of_decide_eq_true hf) (by decide)
 induction x using X.casesOn with
 |v v=>obtain⟨aS,_,h⟩:=aU (show(kr v).bind _=I (xs,st')from h);exact key h
 |cell i=>obtain⟨aS,_,h⟩:=aU (show(st.lst i).bind _=I (xs,st')from h);exact key h
theorem Gf{a b:Int}(aB:inR a=true)(bf:inR b=true):(gM a b).length≤200000:=by erw[bF,LN];exact Int.toNat_le.mpr (um (sT bf).2 (sT aB).1)
theorem QR{src:Src}{x:X}{xs:List V}(h:fi C src st=I (x,xs,st')):xs.length≤200000:=by
 induction src using Src.casesOn with
 |of e=>obtain⟨y,s1,_,h⟩:=b2 (show aY (aj C e st) (fun x st=>(st.lend x).map fun p=>(x,p.1,p.2))=I (x,xs,st')from h);obtain⟨p,ar,e⟩:=omap h;cases e;exact QQ ar
 |enum e=>obtain⟨y,s1,_,h⟩:=b2 (show aY (aj C e st) (fun x st=>(xL x).bind fun xs=>if fit xs.length then I (X.v .bB,pairs 0 xs,st)else J)=I (x,xs,st')from h);obtain⟨aS,_,h⟩:=aU h;obtain⟨hf,e⟩:=c0 h;cases e;erw[FL];exact bR (of_decide_eq_true hf) (by decide)
 |zip a b=>obtain⟨y,s1,_,h⟩:=b2 (show aY (aj C a st) (fun x st=>(xL x).bind fun xs=>aY (aj C b st) fun y st=>(xL y).bind fun aS=>if fit (xs.length+aS.length)then I (X.v .bB,k4 xs aS,st)else J)=I (x,xs,st')from h);obtain⟨aS,_,h⟩:=aU h;obtain⟨fq,s2,_,h⟩:=b2 h;obtain⟨zs,_,h⟩:=aU h;obtain⟨hf,e⟩:=c0 h;cases e;erw[FN];have:=of_decide_eq_true hf;lia
 |range a=>obtain⟨y,s1,_,h⟩:=b2 (show aY (aj C a st) (fun y st=>(fJ y).bind fun n=>if inR n then I (X.v .bB,gM 0 n,st)else J)=I (x,xs,st')from h);obtain⟨m,_,h⟩:=aU h;obtain⟨hf,e⟩:=c0 h;cases e;exact Gf rfl hf
 |lY a b=>obtain⟨y,s1,_,h⟩:=b2 (show aY (aj C a st) (fun x st=>(fJ x).bind fun m=>aY (aj C b st) fun y st=>(fJ y).bind fun n=>if inR m&&inR n then I (X.v .bB,gM m n,st)else J)=I (x,xs,st')from h);obtain⟨m,_,h⟩:=aU h;obtain⟨fq,s2,_,h⟩:=b2 h;obtain⟨ma,_,h⟩:=aU h;obtain⟨hf,e⟩:=c0 h;cases e;obtain⟨aa,ab⟩:=cC.mp hf;exact Gf aa ab
theorem Gg{it:Expr}{src:Src}(h:l0 cx it (aW cx it) (mQ cx it)=I src)(env:Env)(x:Value):foldedSetIterable it env x=pure x:=by cases it<;>first|rfl|exact c1 h
theorem QS{x:X}{xs:List V}{l:List (Option X)}(h:st.back x xs=I st2):({st with loc:=l}:St).back x xs=I {st2 with loc:=l}:=by
 induction x using X.casesOn with
 |v a=>cases h;rfl
 |cell i=>obtain⟨u,aK,e⟩:=omap (show((st.heap[i]?).bind uU).map _=I st2 from h);show((st.heap[i]?).bind uU).map _=_;erw[aK,←e];rfl
inductive Ag(C:Calls)(src:Src)(aF:cJ)(test:St→Option (Bool×St))(elt:St→Option (V×St))(st:St)(x:X)(st':St):Prop where
 |mk (x0:X) (xs:List V) (st1:St) (ay:fi C src st=I (x0,xs,st1)) (aS:List V) (d6:St) (au:fh aF test elt xs (g9 aF st1)=I (aS,d6)) (bo:d6.base=st1.base) (st2:St) (cg:d6.back x0 xs=I st2) (ex:x= .v (.lst aS)) (es:st'={st2 with loc:=st1.loc}):Ag C src aF test elt st x st'
theorem Gh{src:Src}{aF:cJ}{test:St→Option (Bool×St)}{elt:St→Option (V×St)}{x:X}(h:((fi C src st).bind fun p=>aY (fh aF test elt p.2.1 (g9 aF p.2.2)) fun aS st1=>uX p.2.2 p.1 p.2.1 aS st1)=I (x,st')):Ag C src aF test elt st x st':=by obtain⟨⟨x0,xs,st1⟩,ay,h⟩:=aU h;obtain⟨aS,d6,au,h⟩:=b2 h;obtain⟨bo,h⟩:=c0 (show(if d6.base=st1.base then(d6.back x0 xs).map _ else J)=I (x,st')from h);obtain⟨st2,cg,e⟩:=omap h;cases e;exact⟨x0,xs,st1,ay,aS,d6,au,bo,st2,cg,rfl,rfl⟩
theorem Gi(aQ:cH w ae cb cm){elt tgt it:Expr}{ifs:List Expr}{scope:Scope}{pos p:Pos}{use:Option (Value→Sem Unit)}{Q:Value→Shared→Prop}{x:X}{src:Src}{aF:cJ}{test:St→Option (Bool×St)}{gv:St→Option (V×St)}
  (ov:jX (d8 cx scope tgt) tgt=I aF) (lq:l0 cx it (aW cx it) (mQ cx it)=I src) (gP:mO aF src=true) (ok:kF cx scope tgt) (hit:bj w ae C n cx it) (fu:∀f as p,it= .Call f as [] p→∀e,e∈as→bj w ae C n cx e)
  (ax:d1 n A) (hf:dw cx fm) (R:Rel w ae G W fm st s) (aN:Ag C src aF test gv st x st')
  (d':∀{fm' G W st s b st'},dw (d8 cx scope tgt) fm'→Rel w ae G W fm' st s→test st=I (b,st')→wpAny (model a4 w) A (forIn ifs true fun c r=>if r=true then do let ok←isTrue c fm'.env (eval c fm'.env);pure (lQ ok)else pure (lQ r)) (fun ok s'=>ok=b∧hy w ae G W fm' s st' s') bL s)
  (hS:∀{fm' G W st s v st'},dw (d8 cx scope tgt) fm'→Rel w ae G W fm' st s→gv st=I (v,st')→wpAny (model a4 w) A (eval elt fm'.env) (d9 w ae G W fm' s st' (.v v)) bL s)
  (h:∀acc c gQ m W' s',W.le W'→Rel w ae (i1 G [(c,gQ)]) W' fm st' s'→NsObj gQ m→(∀o,¬G c o)→b8 W' x (.ref acc)→s'.os=s.os→compPost (model a4 w) A bL use Q (.ref acc) c (.ok .next) s'):
  wpAny (model a4 w) A (comprehension (.ListComp elt [⟨tgt,it,ifs,0⟩] scope pos) scope fm.env p (newList []) false (eval it fm.env) use) Q bL s:=by
 obtain⟨cl,QT,mV⟩:=Qy hf R ok;obtain⟨x0,xs,st1,ay,aS,d6,au,bo,st2,cg,rfl,rfl⟩:=aN;refine wpAny_comprehension_free rfl (Gg lq fm.env) QT ok.kind ok.locals (wpAny_mono (FY aQ ax hf R hit fu lq (FJ ov) gP ay) (fun u s₁ q=>wpAny_mono q (fun vu s₂ q=>?_) fun ag ag x=>x) fun ag ag x=>x);obtain⟨cc,W1,dJ,bq,ea,wr,P,d5,cR,rfl,aM,aZ,a0,T,L⟩:=q;refine QJ (RR:=fun acc c=>compPost (model a4 w) A bL use Q acc c) ok hf aZ T ov ax mV d' hS (QR ay) au bo fun acc c gQ m W' s' bt cy mh dF bO cK=>?_;have ek:=QE L bt cy (QS cg) fun a o hm=>by rw[dY]at hm;cases hm;exact dF
 refine h acc c gQ m W' s' (aM.trans bt) ek mh (fun o g=>?_) bO (cK.trans a0)
 induction x0 using X.casesOn with
 |v a=>cases L;exact dF o g
 |cell i=>obtain⟨q,vs,k,_,_,_,rfl,_⟩:=L;exact dF o (.inl g)
inductive Gj(cx:bV)(tgt it:Expr)(ifs:List Expr)(scope:Scope)(elt:Expr)(aH:ao):Prop where
 |mk (aF:cJ) (ov:jX (d8 cx scope tgt) tgt=I aF) (src:Src) (lq:l0 cx it (aW cx it) (mQ cx it)=I src) (gP:mO aF src=true) (ok:u0 cx scope tgt=true) (m5:ao) (mg:aW (d8 cx scope tgt) elt=I m5)
   (h:(ifs=[]∧aH= .comp m5 aF src)∨∃c pc,ifs=[c]∧aW (d8 cx scope tgt) c=I pc∧aH= .r' m5 aF src pc):Gj cx tgt it ifs scope elt aH
theorem QU{elt tgt it:Expr}{ifs:List Expr}{scope:Scope}{pos:Pos}{aH:ao}(i5:aW cx (.ListComp elt [⟨tgt,it,ifs,0⟩] scope pos)=I aH):Gj cx tgt it ifs scope elt aH:=by
 have ah:=i5;obtain⟨_,aa⟩:=hu ah;obtain⟨aF,ov,ab⟩:=aU aa;obtain⟨src,lq,aq⟩:=aU ab;obtain⟨gP,ba⟩:=hu aq;obtain⟨m5,mg,b0⟩:=aU ba;clear i5 ah aa ab aq ba;simp only[qv,uz,not_or,LR]at gP;refine⟨aF,ov,src,lq,gP.1,gP.2,m5,mg,?_⟩
 rcases h5 b0 with⟨d2,fk⟩|d2
 ·exact .inl ⟨km.mp d2,(Option.some.inj fk).symm⟩
 ·obtain⟨ar,fk⟩:=hu d2;obtain⟨pc,pH,s8⟩:=omap fk;obtain⟨c,rfl⟩:=List.length_eq_one_iff.mp (CQ.mp ar);exact .inr ⟨c,pc,rfl,pH,s8.symm⟩
theorem Gk(aQ:cH w ae cb cm){elt tgt it:Expr}{ifs:List Expr}{scope:Scope}{pos p:Pos}{aH:ao}{use:Option (Value→Sem Unit)}{Q:Value→Shared→Prop}{x:X}
  (ah:aW cx (.ListComp elt [⟨tgt,it,ifs,0⟩] scope pos)=I aH) (hit:bj w ae C n cx it) (fu:∀f as p,it= .Call f as [] p→∀e,e∈as→bj w ae C n cx e) (mg:bj w ae C n (d8 cx scope tgt) elt) (s9:∀c∈ifs,ST w ae C n (d8 cx scope tgt) c)
  (ax:d1 n A) (hf:dw cx fm) (R:Rel w ae G W fm st s) (aN:aj C aH st=I (x,st'))
  (h:∀acc c gQ m W' s',W.le W'→Rel w ae (i1 G [(c,gQ)]) W' fm st' s'→NsObj gQ m→(∀o,¬G c o)→b8 W' x (.ref acc)→s'.os=s.os→compPost (model a4 w) A bL use Q (.ref acc) c (.ok .next) s'):
  wpAny (model a4 w) A (comprehension (.ListComp elt [⟨tgt,it,ifs,0⟩] scope pos) scope fm.env p (newList []) false (eval it fm.env) use) Q bL s:=by
 obtain⟨aF,ov,src,lq,gP,ok,m5,QV,aw⟩:=QU ah;have ok:=Qr ok;have pL:∀{fm' G W st s v st'},dw (d8 cx scope tgt) fm'→Rel w ae G W fm' st s→gN (aj C m5 st)=I (v,st')→wpAny (model a4 w) A (eval elt fm'.env) (d9 w ae G W fm' s st' (.v v)) bL s:=by intro fm' G W st s v st' me de h;obtain⟨y,s1,e,h⟩:=b2 h;obtain⟨fK,aJ,h⟩:=omap h;cases h;obtain rfl:=l' aJ;exact mg QV ax me de e
 rcases aw with⟨rfl,rfl⟩|⟨jz,pc,rfl,QW,rfl⟩
 ·refine Gi aQ ov lq gP ok hit fu ax hf R (Gh (test:=fun st=>I (true,st)) (elt:=fun st=>gN (aj C m5 st)) aN) (fun me de h=>?_) pL h;cases h;exact wpAny_tests_nil ⟨rfl,_,.rfl,de,rfl⟩
 ·refine Gi aQ ov lq gP ok hit fu ax hf R (Gh (test:=fun st=>hO (aj C pc st)) (elt:=fun st=>gN (aj C m5 st)) aN) (fun me de h=>?_) pL h;obtain⟨y,s1,e,h⟩:=b2 h;obtain⟨b,bf,h⟩:=omap h;cases h;obtain rfl:=mW bf;exact wpAny_tests_one (s9 _ (.head _) QW ax me de e)
theorem Gl{c:Addr}{gQ:Obj}{m:Str→Option Value}(R:Rel w ae (i1 G [(c,gQ)]) W fm st s)(mh:NsObj gQ m)(dF:∀o,¬G c o):Rel w ae G W fm st s∧Off G W fm st c∧s.heap.Ns c m:=by have hm:(c,gQ)∈[(c,gQ)]:=.head _;refine⟨R.Fd fun a o h v=>?_,R.zt hm dF,mh.ns (R.e3 _ _ (.inr hm))⟩;rw[dY]at h;cases h;obtain⟨es,ep,d,_⟩:=mh;erw[d];exact fun h=>nomatch h
theorem QX(aQ:cH w ae cb cm){elt tgt it:Expr}{ifs:List Expr}{scope:Scope}{pos:Pos}(hit:bj w ae C n cx it)(fu:∀f as p,it= .Call f as [] p→∀e,e∈as→bj w ae C n cx e)(mg:bj w ae C n (d8 cx scope tgt) elt)(s9:∀c∈ifs,ST w ae C n (d8 cx scope tgt) c):
  bj w ae C n cx (.ListComp elt [⟨tgt,it,ifs,0⟩] scope pos):=by
 intro aH ah A ax G W fm st s x st' hf R aN;rw[eval_ListComp];refine Gk aQ (use:=J) ah hit fu mg s9 ax hf R aN fun acc c gQ m W' s' l de mh dF r o=>?_;obtain⟨aZ,off,aA⟩:=Gl de mh dF;exact⟨m,aA,fun h' fL=>⟨W',l,aZ.vk (k:=s'.toks) off fL,r,o⟩⟩
theorem QY(aQ:cH w ae cb cm){elt tgt it:Expr}{ifs:List Expr}{scope:Scope}{pos Gm py:Pos}{y:Str}{i:Nat}{aH:ao}{x:X}(vQ:swapsWith (.ListComp elt [⟨tgt,it,ifs,0⟩] scope pos) (I (.Name y py)) Gm.line fm.env=pure true)
  (ah:aW cx (.ListComp elt [⟨tgt,it,ifs,0⟩] scope pos)=I aH) (hit:bj w ae C n cx it) (fu:∀f as p,it= .Call f as [] p→∀e,e∈as→bj w ae C n cx e) (mg:bj w ae C n (d8 cx scope tgt) elt) (s9:∀c∈ifs,ST w ae C n (d8 cx scope tgt) c)
  (aV:cx.ak y=I i) (ax:d1 n A) (hf:dw cx fm) (R:Rel w ae G W fm st s) (aN:aj C aH st=I (x,st')) {Q:Flow→Shared→Prop} (cQ:∀s',hy w ae G W fm s (st'.f' i x) s'→Q .next s'):
  wpAny (model a4 w) A (exec (.Assign [.Name y py] (.ListComp elt [⟨tgt,it,ifs,0⟩] scope pos) Gm) fm.env) Q bL s:=by
 erw[exec_Assign_Name_used _ _ _ _ vQ];refine wpAny_bind (wpAny_standAt (wpAny_bind ?_));refine wpAny_bind (wpAny_mono (Gk aQ (use:=I (assign (.Name y py) fm.env)) (Q:=fun ag s'=>Q .next s') ah hit fu mg s9 ax hf R aN fun acc c gQ m W' s' l de mh dF r o=>?_) (fun ag s' aE=>wpAny_pure (wpAny_pure aE)) fun ag ag e=>e);refine wpAny_mono (vz de hf aV r) (fun ag mf q=>?_) fun ag ag x=>x;obtain⟨aZ,off,aA⟩:=Gl q.1 mh dF;exact⟨m,aA,fun h' fL=>cQ _ ⟨W',l,aZ.vk (k:=mf.toks) off fL,q.2.trans o⟩⟩
end
end
end Mine
end
section
open PySem PySem.W PySem.Calls PyProof.Rows PySem.SeqAt
namespace Mine
noncomputable section
theorem QZ(P:Params):((iQ 55).all fun f=>sg f||(pB (nsIn (H.c7 P) mainGlobals (Str.ofString (qH.getD f ""))) (ha f)))=true:=by kernel_rfl
theorem Q0(P:Params):((iQ 55).all fun f=>keepIn (H.c7 P) (.ref (ha f))&&isFn (H.c7 P) (.ref (ha f)))=true:=by kernel_rfl
theorem Q1(P:Params):((iQ 11).all fun c=>pB (nsIn (H.c7 P) mainGlobals (Str.ofString (qI.getD c ""))) (dE c)&&makesIn (H.c7 P) (dE c)&&pB (findIn (H.c7 P) (.ref (dE c)) "__init__") (ha (gC c))&&keepIn (H.c7 P) (.ref (dE c))&&U (gC c<55))=true:=by kernel_rfl
theorem Q3(P:Params):(pB (findIn (H.c7 P) (.ref (dE 7)) (nm 52)) (ha 15)&&pB (findIn (H.c7 P) (.ref (dE 7)) (nm 42)) (ha 16))=true:=by kernel_rfl
theorem Gn(P:Params){f:Nat}(h:f<55)(hm:sg f=false):nsIn (H.c7 P) mainGlobals (Str.ofString (qH.getD f ""))=I (I (.ref (ha f))):=by have:=h2.mp (QZ P) f (kX.mpr h);rw[hm,LI]at this;exact qO this
theorem vR(P:Params){f:Nat}(h:f<55):keepIn (H.c7 P) (.ref (ha f))=true∧typeIn (H.c7 P) (.ref (ha f))=I (.type "function"):=by have:=h2.mp (Q0 P) f (kX.mpr h);refine bC (fun a b=>?_) (cC.mp this);exact⟨a,beq_iff_eq.mp b⟩
theorem Gp(P:Params){c:Nat}(h:c<11):nsIn (H.c7 P) mainGlobals (Str.ofString (qI.getD c ""))=I (I (.ref (dE c)))∧makesIn (H.c7 P) (dE c)=true∧findIn (H.c7 P) (.ref (dE c)) "__init__"=I (I (.ref (ha (gC c))))∧keepIn (H.c7 P) (.ref (dE c))=true∧gC c<55:=by
 have:=h2.mp (Q1 P) c (kX.mpr h);simp only[uy,decide_eq_true_eq]at this;obtain⟨⟨⟨⟨a,b⟩,d⟩,e⟩,f⟩:=this;exact⟨qO a,b,qO d,e,f⟩
theorem Gq(P:Params){c k f:Nat}(h:mN c k=I f):c=7∧k<61∧f<55∧findIn (H.c7 P) (.ref (dE c)) (nm k)=I (I (.ref (ha f))):=by
 have:=Q3 P;refine bC (fun a b=>?_) (cC.mp this);unfold mN at h
 split at h
 ·rename_i e;obtain⟨rfl,rfl⟩:=e;cases h;exact⟨rfl,by decide,by decide,qO a⟩
 ·split at h
  ·rename_i e;obtain⟨rfl,rfl⟩:=e;cases h;exact⟨rfl,by decide,by decide,qO b⟩
  ·cases h
theorem d1.i{n:Nat}{A:Around}(h:d1 n A):px n A:=⟨h.h,gI (lR (by decide) _) h.d,gI (lR (by decide) _) h.u⟩
section
variable{cx:bV}{A:Around}{G:Addr→Obj→Prop}{W W':a3}{fm fm':bS}{st st':St}{s:Shared}
theorem Ah(aQ:cH w ae cb cm){es:List Expr}{pos:Pos}(h:∀e,e∈es→bj w ae C n cx e){bg:az}(ah:dv cx es=I bg)(ax:d1 n A)(hf:dw cx fm)(R:Rel w ae G W fm st s){xs:List X}(aN:dq C bg st=I (xs,st')){f:Value}{first:List Value}{Q:Value→Shared→Prop}
  (ai:keepIn (H.c7 w.params) f=true) (aE:∀us W' s',W.le W'→Rel w ae G W' fm st' s'→s'.os=s.os→cM W' xs us→wpAny (model a4 w) A (call f (first++us)) Q bL s'):
  wpAny (model a4 w) A (callWith pos f first (backTo pos (starEach es fm.env)) []) Q bL s:=by
 induction es using bY with
 |nil=>cases ah;cases aN;exact callWith_K0 (R.K aQ) ai (aE [] W s .rfl R rfl trivial)
 |cons e r=>obtain⟨bx,bN,ca,dy,_⟩:=oa ah;exact callWith_K aQ.K ai (qV (zv (pos:=pos) h ah ax hf R aN) fun us s' W1 aM aZ a8 a0=>⟨aZ.K aQ,aE us W1 s' aM aZ a0 a8⟩) (lh ca) (qW dy)
theorem Gr{o:Option (X×List Cell×Nat)}{x:X}(h:yx st o=I (x,st')):∃h' t,o=I (x,h',t)∧st'={st with heap:=h',tag:=t}:=by obtain⟨⟨y,h',t⟩,e,au⟩:=omap h;cases au;exact⟨h',t,e,rfl⟩
theorem Gs{x:Str}{i:Nat}{l:List String}(h:l.findIdx? (dc x)=I i):i<l.length∧x=Str.ofString (l.getD i ""):=by refine eA fun cF=>?_;obtain⟨ai,hp,_⟩:=Z3.mp h;refine cF ?_;refine⟨ai,?_⟩;erw[je,gp ai];exact beq_iff_eq.mp hp
theorem Q4(aQ:cH w ae cb cm)(bk:eC w ae C n){f:Str}{bq p:Pos}{es:List Expr}{i:Nat}(h:∀e,e∈es→bj w ae C n cx e)(aC:cx.gl f=true)(aw:qH.findIdx? (dc f)=I i)(hm:sg i=false){bg:az}(ah:dv cx es=I bg):
  e5 w ae C n cx (.Call (.Name f bq) es [] p) (.call i bg):=by
 intro A ax G W fm st s v st' hf R aN;obtain⟨dQ,rfl⟩:=Gs aw;obtain⟨xs,s1,ex,aa⟩:=b2 (show aY (dq C bg st) _=I (v,st')from aN);obtain⟨h',t,js,rfl⟩:=Gr aa;exact Call_ (y7 aQ R hf aC (mg_of aQ.K aQ.g (Gn w.params dQ hm)) (Ah aQ h ah ax hf R ex (vR w.params dQ).1 fun us W1 s' aM aZ a0 a8=>sel (bk.fn ax.i aZ a8 dQ js) aM a0))
inductive MethAt(s:Shared)(k f:Nat)(u:Value):Prop where
 |mk (x0 dx c:Nat) (m:Str→Option Value) (od:Obj) (e:u= .ref x0) (Gu:mN c k=I f) (aC:s.heap.get? x0=I (instObj (dE c) dx)) (vS:s.heap.get? dx=I od) (nn:NsObj od m) (Gv:m (nm k)=J):MethAt s k f u
theorem Gw{c k f:Nat}(pP:mN c k=I f){m:Str→Option Value}{α:Type}{fs:List (Nat×α)}(ex:∀s v,m s=I v→∃n y,s=nm n∧er n fs=I y)(aA:(er k fs).isNone=true):m (nm k)=J:=by
 cases aE:m (nm k)with
 |none=>rfl
 |some v=>obtain⟨j,y,e,a'⟩:=ex _ _ aE;rw[←qR (Gq w.params pP).2.1 e]at a';rw[a']at aA;cases aA
theorem Q5{G:Addr→Obj→Prop}{W:a3}{fm:bS}{st:St}{s:Shared}(R:Rel w ae G W fm st s){x:X}{u:Value}(r:b8 W x u){k f:Nat}(pP:st.yu k x=I f):MethAt s k f u:=by
 induction x using X.casesOn with
 |v v=>obtain⟨p,aa,ab⟩:=aU (show(objOf v).bind _=I f from pP);refine bC (fun aA aq=>?_) (c0 ab);obtain⟨t,rfl⟩:=E2 aa;obtain⟨x,dx,od,m,rfl,f1,fd,nn,_,ex,_⟩:=E1 r;exact⟨x,dx,p.1,m,od,rfl,aq,R.cD _ _ f1,R.cD _ _ fd,nn,Gw aq ex aA⟩
 |cell i=>obtain⟨p,aa,ab⟩:=aU (show((st.heap[i]?).bind ph).bind _=I f from pP);refine bC (fun aA aq=>?_) (c0 ab);obtain⟨c,fs,rfl,ah⟩:=zg aa;obtain⟨q,aE,rfl⟩:=r;obtain⟨f1,m,hm,ex,_⟩:=R.cells _ _ _ ah aE;obtain⟨od,Q6,nn⟩:=Ns.obj hm.ns;exact⟨q.1,q.2,c,m,od,rfl,aq,R.cD _ _ f1,Q6,nn,Gw aq ex aA⟩
theorem Q7(aQ:cH w ae cb cm)(bk:eC w ae C n){o:Expr}{apos pos:Pos}{es:List Expr}{k:Nat}{po:ao}{bg:az}(aO:bj w ae C n cx o)(h:∀e,e∈es→bj w ae C n cx e)(co:aW cx o=I po)(ah:dv cx es=I bg)(ar:es.length<30)(jv:(apos.endLine==pos.line)=true):
  e5 w ae C n cx (.Call (.Attribute o (nm k) apos) es [] pos) (.uM po k bg):=by
 intro A ax G W fm st s v st' hf R aN;obtain⟨x,s1,iZ,aa⟩:=b2 (show aY (aj C po st) _=I (v,st')from aN);obtain⟨f,pP,ab⟩:=aU aa;obtain⟨xs,s2,ex,aq⟩:=b2 ab;obtain⟨h',t,js,rfl⟩:=Gr aq;clear aN aa ab aq;refine sO co ah ar jv (dm (aO co ax hf R iZ) fun u s₁ W1 aM aZ a8 a0=>?_);obtain⟨x0,dx,c,m,od,rfl,Gu,aC,vS,nn,Gv⟩:=Q5 aZ a8 pP;obtain⟨aaL,ai,Ai,Aj⟩:=Gq w.params Gu;have Q8:c<11:=by lia
 obtain⟨g,_,_,_⟩:=vh w.params Q8;exact method_fn (aZ.K aQ) (C:=dE c) (ox:=instObj (dE c) dx) (od:=I od) ⟨aC,rfl,rfl,vS⟩ (plainGet_of g).1 (plainGet_of g).2 Aj (vR w.params Ai).2 (by show LK (fun x=>x.isSome) (lookIn (nm k) od)=I false;erw[vg nn,Gv];rfl)
  (Ah aQ h ah ax hf aZ ex (vR w.params Ai).1 fun us cN s' bt cy cK b3=>sel (bk.fn ax.i cy (xs:=x::xs) (us:=.ref x0::us) ⟨a8.mono bt,b3⟩ Ai js) (aM.trans bt) (cK.trans a0))
theorem Rel.Q9(R:Rel w ae G W fm st s)(x:Addr):Rel w ae G {W with t:=W.t++[x]} fm {st with tag:=st.tag+1} s:=by
 have eG:W.le {W with t:=W.t++[x]}:=⟨fun ag ag h=>h,o3 _ _,ir _⟩
 exact{R with tag:=b4.trans (congrArg (· +1) R.tag),cl:=fun l=>(R.cl l).mono eG (bE _),lo:=R.lo.mono eG}
theorem ta:∀{fs:List (Nat×X)} {gs:List (Nat×V)},mM fs=I gs→∀k,(∀y,er k gs=I y→er k fs=I (.v y))∧(∀y,er k fs=I y→∃z,er k gs=I z):=by
 intro aT
 induction aT with
 |nil=>intro _ h k;cases h;exact⟨fun y h=>(by cases h),fun y h=>(by cases h)⟩
 |cons dA r aD=>
  obtain⟨j,x⟩:=dA;intro gs h k;obtain⟨a,aC,h⟩:=aU (show(valOf x).bind _=I gs from h);obtain⟨l,aa,rfl⟩:=omap h;obtain rfl:=l' aC;obtain⟨cY,dt⟩:=aD aa k;erw[qF,qF];refine bZ (fun e:j=k=>?_) (fun e=>?_)
  ·erw[if_pos e,if_pos e];exact⟨fun y aV=>by cases aV;rfl,fun y aV=>⟨a,rfl⟩⟩
  ·erw[if_neg e,if_neg e];exact⟨cY,dt⟩
theorem Gx{dx x:Addr}{od:Obj}{c:Nat}{fs:List (Nat×X)}{gs:List (Nat×V)}{h:Heap}{bd:Nat}{t:Option Nat}{p:List (Addr×Addr)}(hp:mM fs=I gs)(iX:e' w {W with p:=p} h bd (x,dx) (.inst c fs))(tb:h.get? dx=I od)(hd:W.F dx od)(a5:∀i,t=I i→W.t[i]? =I x):
  dd W (.obj t c gs) (.ref x):=by
 obtain⟨f,m,hm,ex,g⟩:=iX;obtain⟨aaM,e,nn⟩:=Ns.obj hm.ns
 dsimp only at f e
 rw[tb]at e;cases e;have inv:∀{v:V} {u:Value},dd {W with p:=p} v u→dd W v u:=by
  intro v u r
  induction r with
  |bB=>exact .bB
  |bool b=>exact .bool b
  |int i t=>exact .int i t
  |str n t=>exact .str n t
  |tup f s l _ aG=>exact .tup f s l aG
  |lst f s l _ aG=>exact .lst f s l aG
  |obj f fd n a5 ex g1 _ aG=>exact .obj f fd n a5 ex g1 aG
 refine .obj (g:=fun k=>(m (nm k)).getD .none) (m:=m) f hd nn a5 (fun s v aL=>?_) (fun k y ai=>?_) (fun k y ai=>?_)
 ·obtain⟨j,y,e,a'⟩:=ex s v aL;exact⟨j,_,e,((ta hp j).2 y a').choose_spec⟩
 ·obtain⟨_,v,e,_⟩:=g k _ ((ta hp k).1 y ai);erw[e];rfl
 ·obtain⟨_,v,e,r⟩:=g k _ ((ta hp k).1 y ai);erw[e];exact inv r
end
end
end Mine
end
section
open PySem PySem.W PySem.Calls PyProof.Rows PySem.SeqAt
namespace Mine
noncomputable section
section
variable{cx:bV}{A:Around}{G:Addr→Obj→Prop}{W W':a3}{fm fm':bS}{st st':St}{s:Shared}
theorem Q'{Ak:Addr}{us:List Value}(h:d1 n A):px n (A.under (.builtin "type.__call__" ⟨.ref Ak::us,[]⟩)):=by
 have ay:(Code.builtin "type.__call__" ⟨.ref Ak::us,[]⟩).weight≤2:=bR (eQ (by kernel_rfl:_=1)) (by decide);have au:(Code.builtin "type.__call__" ⟨.ref Ak::us,[]⟩).cUnits≤20:=by
  first|exact bR (eQ (by kernel_rfl:_=1)) (by decide)|exact bR (eQ (by kernel_rfl:_=2)) (by decide)|exact bR (eQ (by kernel_rfl:_=3)) (by decide)|exact bR (eQ (by kernel_rfl:_=4)) (by decide)
 have kG {a b m x y z:Nat} (aC:x≤y) (h:a+m+(y+z)<b):a+x+m+z<b:=by refine gI ?_ h;erw[iP a x m,rV (a+m) x z];exact lR (aaa aC z) _
 exact⟨h.h,kG ay h.d,kG au h.u⟩
theorem Ra{H:List Cell}{k:Nat}{c:Cell}(ar:H.length=k+1)(ah:H[k]? =I c):H.take k++[c]=H:=by refine f7 (d7.mp ah) fun aa ab=>?_;erw[←ab];have:=List.take_append_getElem aa;erw[this,uw (eQ ‹_›)]
inductive Al(c:Nat)(st:St)(H:List Cell)(t:Nat)(fs:List (Nat×X))(v:X)(st':St):Prop where
 |keep (h:kept c=true) (e:v= .cell st.heap.length) (au:st'={st with heap:=H,tag:=t}):Al c st H t fs v st'
 |frozen (gs:List (Nat×V)) (h:mM fs=I gs) (e:v= .v (.obj (if tagged c then I t else J) c gs)) (au:st'={st with heap:=H.take st.heap.length,tag:=if tagged c then t+1 else t}):Al c st H t fs v st'
theorem Rb{c:Nat}{H:List Cell}{t:Nat}{v:X}(h:sf c st H t=I (v,st')):∃fs,H[st.heap.length]? =I (.inst c fs)∧Al c st H t fs v st':=by
 obtain⟨p,hp,aa⟩:=aU h;obtain⟨d,hd,hp⟩:=aU hp;have lg:∃fs,d= .inst p.1 fs∧fs=p.2:=by
  induction d using Cell.casesOn<;>cases hp
  exact⟨_,rfl,rfl⟩
 obtain⟨fs,rfl,rfl⟩:=lg;obtain⟨ah,ab⟩:=hu aa;obtain rfl:p.1=c:=CQ.mp ah;refine⟨p.2,hd,?_⟩
 rcases h5 ab with⟨ai,e⟩|aq
 ·cases e;exact .keep ai rfl rfl
 ·obtain⟨gs,aK,e⟩:=omap aq;cases e;exact .frozen gs aK rfl rfl
theorem Rc{x:X}{u:Unit}(h:yw x=I u):x= .v .bB:=by
 obtain⟨v,aJ,aa⟩:=aU h;refine bC (fun aA ag=>?_) (c0 aa);erw[l' aJ]
 induction v using V.casesOn<;>first|rfl|cases aA
theorem Rd(aQ:cH w ae cb cm)(bk:eC w ae C n){f:Str}{bq p:Pos}{es:List Expr}{c:Nat}(h:∀e,e∈es→bj w ae C n cx e)(aC:cx.gl f=true)(aw:qI.findIdx? (dc f)=I c){bg:az}(ah:dv cx es=I bg):
  e5 w ae C n cx (.Call (.Name f bq) es [] p) (.new c bg):=by
 intro A ax G W fm st s v st' hf R aN;obtain⟨dQ,rfl⟩:=Gs aw;have dQ:=dQ;obtain⟨dH,ft,vT,q5,mi⟩:=Gp w.params dQ;obtain⟨xs,s1,ex,aa⟩:=b2 (show aY (dq C bg st) _=I (v,st')from aN);obtain⟨⟨y,H,t1⟩,js,ab⟩:=aU aa;obtain⟨_,aV,aq⟩:=aU ab;obtain⟨fs,Gy,aA⟩:=Rb (show sf c s1 H t1=I (v,st')from aq);clear aN aa ab aq;obtain rfl:=Rc (show yw y=_ from aV);refine Call_ (y7 aQ R hf aC (mg_of aQ.K aQ.g dH) ?_);refine Ah aQ h ah ax hf R ex q5 fun us W1 s' aM aZ a0 a8=>?_;refine wpAny_call ?_;obtain⟨hh,g,d,t,os⟩:=s';have Am:=aZ.K aQ;refine make_core (makes_of Am ft) (looks_findIn Am vT) (fun self=>bind_fn Am self (vR w.params mi).2) (.inl rfl) ?_;have ai:∀b o,hh.get? b=I o→((hh.push emptyDict).push (instObj (dE c) hh.objs.size)).get? b=I o:=fun b o e=>Heap.get?_push_of_some _ (Heap.get?_push_of_some _ e);have Rf:((hh.push emptyDict).push (instObj (dE c) hh.objs.size)).get? (hh.objs.size+1)=I (instObj (dE c) hh.objs.size):=by heap_get
 have vS:((hh.push emptyDict).push (instObj (dE c) hh.objs.size)).get? hh.objs.size=I emptyDict:=Heap.get?_push_of_some _ (Heap.get?_push_at rfl rfl);refine codeAny_mono (bk.init (Q' ax) (aZ.keep (k:=t) ai) a8 dQ Rf vS (aZ.h7 (a:=hh.objs.size+1) (lN _)) (aZ.h7 (a:=hh.objs.size) (bE _)) (Nat.succ_ne_self _) js) fun r mf q=>?_;obtain⟨rfl,cN,bt,ep,ek,hlen,Rg,cK⟩:=q;refine⟨rfl,?_⟩;show d9 w ae G W fm s st' v _ _;obtain⟨vU,An⟩:=Rg _ _ Gy;have hp:cN.p.length=s1.heap.length:=by erw[ep];exact aZ.len
 cases aA with
 |keep aaN ay au=>
  subst ay au;have jx:=ek.n6 (q:=(hh.objs.size+1,hh.objs.size)) (c:=.inst c fs) vU (by erw[show({s1 with heap:=H.take s1.heap.length,tag:=t1}:St).heap.length=s1.heap.length from by simp[hlen]];exact An);have e:({s1 with heap:=H.take s1.heap.length++[.inst c fs],tag:=t1}:St)={s1 with heap:=H,tag:=t1}:=by erw[Ra hlen Gy]
  refine⟨{cN with p:=cN.p++[(hh.objs.size+1,hh.objs.size)]},(aM.trans bt).trans ⟨fun ag ag h=>h,ir _,o3 _ _⟩,?_,⟨(hh.objs.size+1,hh.objs.size),?_,rfl⟩,cK.trans a0⟩
  ·erw[←e];exact jx
  ·show(cN.p++[_])[s1.heap.length]? =_;erw[iR (eQ ‹_›)];simp[hp]
 |frozen gs pQ ay au=>
  subst ay au;have hm:∃m,mf.heap.Ns1 hh.objs.size m:=by obtain⟨_,m,hm,_,_⟩:=An;exact⟨m,hm⟩
  obtain⟨m,hm⟩:=hm;obtain⟨od,tb,nn⟩:=Ns.obj hm.ns;have jx:=ek.mT vU tb;have Gz:e' w {(cN.iB hh.objs.size od)with p:=cN.p++[(hh.objs.size+1,hh.objs.size)]} mf.heap (s1.heap.length+1) (hh.objs.size+1,hh.objs.size) (.inst c fs):=e'.mono (W:={cN with p:=cN.p++[(hh.objs.size+1,hh.objs.size)]}) (W':={(cN.iB hh.objs.size od)with p:=cN.p++[(hh.objs.size+1,hh.objs.size)]}) ⟨fun ag ag h=>.inl h,ir _,ir _⟩ (bE _) An
  refine bZ (fun a5:tagged c=true=>?_) (fun a5=>?_)
  ·erw[if_pos a5,if_pos a5];have fa:cN.le {(cN.iB hh.objs.size od)with t:=cN.t++[hh.objs.size+1]}:=⟨fun ag ag h=>.inl h,o3 _ _,ir _⟩
   refine⟨_,(aM.trans bt).trans fa,(jx.Q9 (hh.objs.size+1)),?_,cK.trans a0⟩;refine Gx (W:={(cN.iB hh.objs.size od)with t:=cN.t++[hh.objs.size+1]}) (p:=cN.p++[(hh.objs.size+1,hh.objs.size)]) (h:=mf.heap) (bd:=s1.heap.length+1) (dx:=hh.objs.size) pQ
    (e'.mono (W:={(cN.iB hh.objs.size od)with p:=cN.p++[(hh.objs.size+1,hh.objs.size)]}) (W':={(cN.iB hh.objs.size od)with t:=cN.t++[hh.objs.size+1],p:=cN.p++[(hh.objs.size+1,hh.objs.size)]}) ⟨fun ag ag h=>h,o3 _ _,ir _⟩ (bE _) Gz) tb (.inr ⟨rfl,rfl⟩) fun i aw=>?_
   cases aw;have:cN.t.length=t1:=jx.tag;erw[iR (eQ ‹_›)];simp[this]
  ·erw[if_neg a5,if_neg a5];refine⟨_,(aM.trans bt).trans a3.gE,jx,?_,cK.trans a0⟩;exact Gx (W:=cN.iB hh.objs.size od) pQ Gz tb (.inr ⟨rfl,rfl⟩) fun i aw=>nomatch aw
end
end
end Mine
end
section
open PySem PySem.W PySem.Calls PyProof.Rows PySem.SeqAt
namespace Mine
noncomputable section
section
variable{cx:bV}{A:Around}{G:Addr→Obj→Prop}{W W':a3}{fm fm':bS}{st st':St}{s:Shared}
noncomputable def az.ctorIdx(x:az):Nat:=az.casesOn x 0 (fun ag ag=>1)
theorem Ao{e:Expr}{i:Int}(h:cInt e=I i):∃k p,e= .Constant (.int i) k p:=by
 induction e using Expr.casesOn with
 |Constant c k p=>
  induction c using Const.casesOn with
  |int j=>cases h;exact⟨k,p,rfl⟩
  |_=>exact c1 h
 |_=>exact c1 h
theorem GA{e:Expr}(h:yA e=true):∃k p dp,e= .UnaryOp .USub (.Constant (.int 1) k p) dp:=by
 induction e using Expr.casesOn with
 |UnaryOp o a q=>refine bC (fun aa ab=>?_) (cC.mp h);obtain⟨k,p,rfl⟩:=Ao (of_decide_eq_true ab);erw[of_decide_eq_true aa];exact⟨_,_,_,rfl⟩
 |_=>exact absurd h rR
theorem Rh{e:Expr}(h:uZ e=true):∃k p dp q,e= .Slice J J (I (.UnaryOp .USub (.Constant (.int 1) k p) dp)) q:=by
 induction e using Expr.casesOn with
 |Slice lo aw st q=>
  obtain⟨aa,aq⟩:=cC.mp h;obtain⟨aa,ab⟩:=cC.mp aa;obtain rfl:=ur.mp aa;obtain rfl:=ur.mp ab
  induction st using gJ with
  |none=>exact absurd aq rR
  |some s=>obtain⟨k,p,dp,rfl⟩:=GA aq;exact⟨_,_,_,_,rfl⟩
 |_=>exact absurd h rR
theorem Ri{e:Expr}{lo aw sp:Option Expr}{aH tc:ao}{p gK:Pos}(he:bj w ae C n cx e)(ce:aW cx e=I aH)(h:yB aH lo aw sp=I tc):e5 w ae C n cx (.Subscript e (.Slice lo aw sp gK) p) tc:=by
 induction lo using gJ with
 |none=>
  induction aw using gJ with
  |none=>
   induction sp using gJ with
   |none=>exact c1 h
   |some s=>refine bC (fun hm h=>?_) (c0 h);cases h;obtain⟨k,cL,ck,rfl⟩:=GA hm;exact O2 he ce
  |some x=>
   induction sp using gJ with
   |some=>exact c1 h
   |none=>obtain⟨i,aw,h⟩:=aU h;refine bC (fun h0 h=>?_) (c0 h);cases h;obtain⟨k,cL,rfl⟩:=Ao aw;obtain⟨m,rfl⟩:=Z6 h0;exact O4 he ce
 |some l=>
  induction aw using gJ with
  |some=>exact c1 h
  |none=>
   induction sp using gJ with
   |some=>exact c1 h
   |none=>refine bC (fun aa h=>?_) (c0 h);cases h;obtain⟨k,cL,rfl⟩:=Ao aa;exact O5 he ce
theorem Rj{t a b:Expr}{p:Pos}(a5:ST w ae C n cx t)(aB:ST w ae C n cx a)(bf:ST w ae C n cx b):ST w ae C n cx (.IfExp t a b p):=by
 intro aH ah A ax G W fm st s v st' hf R aN;obtain⟨pt,mI,ah⟩:=aU (show(aW cx t).bind _=I aH from ah);obtain⟨bx,ca,ah⟩:=aU ah;obtain⟨bN,dy,rfl⟩:=omap ah;obtain⟨x,s1,sG,aa⟩:=b2 (show aY (aj C pt st) _=I (_,st')from aN);obtain⟨c,i4,ab⟩:=aU aa;obtain rfl:=mW i4;refine wpAny_bind (l6 (a5 mI ax hf R sG) fun s₁ W1 aM aZ a0=>?_)
 induction c using hL with
 |true=>exact wpAny_mono (aB ca ax hf aZ (sH ab)) (fun ag ag q=>⟨q.1,q.2.step aM a0⟩) fun ag ag x=>x
 |false=>exact wpAny_mono (bf dy ax hf aZ ab) (fun ag ag q=>⟨q.1,q.2.step aM a0⟩) fun ag ag x=>x
theorem bj.of{e:Expr}(h:∀aH,aW cx e=I aH→e5 w ae C n cx e aH):bj w ae C n cx e:=by intro aH ah A ax G W fm st s pF st' hf R aN;exact h aH ah _ ax hf R aN
theorem Ap{e:Expr}(h:aW cx e=J):bj w ae C n cx e∧ST w ae C n cx e:=by
 constructor
 ·intro aH ah;rw[h]at ah;cases ah
 ·intro aH ah;rw[h]at ah;cases ah
theorem GB{c:Const}{k:Nat}{p:Pos}:bj w ae C n cx (.Constant c k p):=by
 induction c using Const.casesOn with
 |int i=>exact NP
 |bool b=>exact s_bool
 |none=>exact NQ
 |str x=>exact NR
 |_=>exact(Ap rfl).1
theorem pR{es:List Expr}{p:ao}{c6:az}(h:dv cx es=I (.cons p c6)):∃e r,es=e::r∧aW cx e=I p∧dv cx r=I c6:=by
 induction es using bY with
 |nil=>cases h
 |cons e r=>obtain⟨a,b,c,d,e⟩:=oa h;cases e;exact⟨_,_,rfl,c,d⟩
theorem td{es:List Expr}(h:dv cx es=I .nil):es=[]:=by
 induction es using bY with
 |nil=>rfl
 |cons e r=>obtain⟨a,b,c,d,e⟩:=oa h;cases e
theorem GC{es:List Expr}{p:ao}(h:dv cx es=I (.cons p .nil)):∃e,es=[e]:=by refine eA fun cF=>?_;obtain⟨e,r,rfl,_,ab⟩:=pR h;refine cF ?_;erw[td ab];exact⟨e,rfl⟩
theorem Rk{es:List Expr}{p q:ao}(h:dv cx es=I (.cons p (.cons q .nil))):∃e au,es=[e,au]:=by obtain⟨e,r,rfl,_,ab⟩:=pR h;obtain⟨au,rfl⟩:=GC ab;exact⟨e,au,rfl⟩
theorem Rl{bx aH:ao}{os:List CmpOp}{bg:az}(h:DX bx os bg=I aH):(∃o b,os=[o]∧bg= .cons b .nil)∨∃o br b c,os=[o,br]∧bg= .cons b (.cons c .nil):=by
 induction bg using az.casesOn with
 |nil=>rcases os with _|⟨o,_|⟨br,_|_⟩⟩<;>exact c1 h
 |cons b r=>induction r using az.casesOn with
  |nil=>rcases os with _|⟨o,_|⟨br,_|_⟩⟩<;>first|exact .inl ⟨o,b,rfl,rfl⟩|exact c1 h
  |cons c r=>induction r using az.casesOn with
   |nil=>rcases os with _|⟨o,_|⟨br,_|_⟩⟩<;>first|exact .inr ⟨o,br,b,c,rfl,rfl⟩|exact c1 h
   |cons _ _=>rcases os with _|⟨o,_|⟨br,_|_⟩⟩<;>exact c1 h
theorem GD{a:Expr}{os:List CmpOp}{bs:List Expr}{p:Pos}{aH:ao}(h:aW cx (.Compare a os bs p)=I aH):(∃o b,os=[o]∧bs=[b])∨∃o br b c,os=[o,br]∧bs=[b,c]:=by
 obtain⟨bx,_,h⟩:=aU (show(aW cx a).bind _=I aH from h);obtain⟨bg,aa,h⟩:=aU h
 rcases Rl h with⟨o,b,rfl,rfl⟩|⟨o,br,b,c,rfl,rfl⟩
 ·obtain⟨e,rfl⟩:=GC aa;exact .inl ⟨_,_,rfl,rfl⟩
 ·obtain⟨e,au,rfl⟩:=Rk aa;exact .inr ⟨_,_,_,_,rfl,rfl⟩
theorem Rm{a:Expr}{os:List CmpOp}{bs:List Expr}{p:Pos}(aB:bj w ae C n cx a)(ob:∀b,b∈bs→bj w ae C n cx b):bj w ae C n cx (.Compare a os bs p)∧ST w ae C n cx (.Compare a os bs p):=by
 constructor
 ·intro aH ah
  rcases GD ah with⟨o,b,rfl,rfl⟩|⟨o,br,b,c,rfl,rfl⟩
  ·exact Oj aB (ob _ (.head _)) ah
  ·exact Om aB (ob _ (.head _)) (ob _ (.tail _ (.head _))) ah
 ·intro aH ah
  rcases GD ah with⟨o,b,rfl,rfl⟩|⟨o,br,b,c,rfl,rfl⟩
  ·exact Ol aB (ob _ (.head _)) ah
  ·exact Oo aB (ob _ (.head _)) (ob _ (.tail _ (.head _))) ah
theorem Rn{t:Expr}{b:gB}(h:yE cx t=I b):∃x p,t= .Name x p∧cx.gl x=true∧((dc x "int"=true∧b= .isInt)∨(dc x "bool"=true∧b= .isBool)):=by
 obtain⟨x,p,rfl,h⟩:=zO h
 rcases h5 h with⟨aa,e⟩|h
 ·cases e;obtain⟨a,b⟩:=cC.mp aa;exact⟨x,p,rfl,a,.inl ⟨b,rfl⟩⟩
 ·obtain⟨aa,e⟩:=c0 h;cases e;obtain⟨a,b⟩:=cC.mp aa;exact⟨x,p,rfl,a,.inr ⟨b,rfl⟩⟩
theorem Ro(aQ:cH w ae cb cm)(bk:eC w ae C n){x:Str}{bq p:Pos}{as:List Expr}{bg:az}{aH:ao}(has:∀e,e∈as→bj w ae C n cx e)(aK:cx.gl x=true)(aa:dv cx as=I bg)(h:sj x bg=I aH):e5 w ae C n cx (.Call (.Name x bq) as [] p) aH:=by
 unfold sj at h;cases bf:k5 x n1 with
 |some b=>replace h:=bf▸h;cases h;exact Pk aQ has aK bf aa
 |none=>
  replace h:=bf▸h;cases aw:qH.findIdx? (dc x)with
  |some i=>replace h:=aw▸h;refine bC (fun hm h=>?_) (hu (show(if sg i then J else I (ao.call i bg))=I aH from h));cases h;exact Q4 aQ bk has aK aw (by simpa using hm) aa
  |none=>replace h:=aw▸h;obtain⟨c,aw,rfl⟩:=omap (show(qI.findIdx? (dc x)).map _=I aH from h);exact Rd aQ bk has aK aw aa
theorem GF{bg:az}{bx:ao}(h:one bg=I bx):bg= .cons bx .nil:=by
 match bg,h with
 | .cons a .nil,h=>cases h;rfl
theorem Rp{po aH:ao}{bg:az}(h:DY po bg=I aH):(∃a,bg= .cons a .nil∧aH= .qE po a)∨∃a b,bg= .cons a (.cons b .nil)∧aH= .pd po a b:=by
 induction bg using az.casesOn with
 |nil=>exact c1 h
 |cons a r=>
 induction r using az.casesOn with
 |nil=>cases h;exact .inl ⟨a,rfl,rfl⟩
 |cons b r=>
 induction r using az.casesOn with
 |nil=>cases h;exact .inr ⟨a,b,rfl,rfl⟩
 |cons=>exact c1 h
theorem Rq(aQ:cH w ae cb cm)(bk:eC w ae C n){x:Str}{o:Expr}{q p:Pos}{as:List Expr}{po:ao}{bg:az}{aH:ao}(has:∀e,e∈as→bj w ae C n cx e)(aO:bj w ae C n cx o)(co:aW cx o=I po)(aa:dv cx as=I bg)(ar:(q.endLine==p.line)=true)(aA:as.length<30)(h:yF x po bg=I aH):e5 w ae C n cx (.Call (.Attribute o x q) as [] p) aH:=by
 rcases h5 (show(if dc x "append" then _ else _)=I aH from h)with⟨aC,h⟩|h
 ·obtain⟨bx,ab,rfl⟩:=omap h;obtain rfl:=GF ab;obtain⟨e,r,rfl,ef,e6⟩:=pR aa;obtain rfl:=td e6;erw[beq_iff_eq.mp aC];exact Pt aO (has _ (.head _)) co ef ar
 ·rcases h5 h with⟨aC,h⟩|h
  ·obtain⟨bx,ab,rfl⟩:=omap h;obtain rfl:=GF ab;obtain⟨e,r,rfl,ef,e6⟩:=pR aa;obtain rfl:=td e6;erw[beq_iff_eq.mp aC];exact Pw aO (has _ (.head _)) co ef ar
  ·rcases h5 h with⟨aC,h⟩|h
   ·erw[beq_iff_eq.mp aC]
    rcases Rp h with⟨a,rfl,rfl⟩|⟨a,b,rfl,rfl⟩
    ·obtain⟨e,r,rfl,ef,e6⟩:=pR aa;obtain rfl:=td e6;exact Px aO (has _ (.head _)) co ef ar
    ·obtain⟨e,r,rfl,ef,e6⟩:=pR aa;obtain⟨au,b3,rfl,fW,m6⟩:=pR e6;obtain rfl:=td m6;exact Pz aO (has _ (.head _)) (has _ (.tail _ (.head _))) co ef fW ar
   ·obtain⟨k,ai,rfl⟩:=omap h;erw[sF ai];exact Q7 aQ bk aO has co aa aA ar
theorem Rr(aQ:cH w ae cb cm){x:Str}{bq p:Pos}{as:List Expr}{aH:ao}(aK:cx.gl x=true)(aw:dc x "isinstance"=true)(h:(match as with|[_,t]=>(u1 cx as).bind fun bx=>(yE cx t).map fun b=>ao.bi b (.cons bx .nil)|_=>J)=I aH)(has:∀e,e∈as→bj w ae C n cx e):e5 w ae C n cx (.Call (.Name x bq) as [] p) aH:=by
 induction as using bY with
 |nil=>exact c1 h
 |cons a r=>
 induction r using bY with
 |nil=>exact c1 h
 |cons t r=>
 induction r using bY with
 |nil=>obtain⟨bx,ca,h⟩:=aU (show(aW cx a).bind _=I aH from h);obtain⟨b,bf,rfl⟩:=omap h;obtain⟨y,q,rfl,aa,ab⟩:=Rn bf;exact Pn aQ (has _ (.head _)) aK aw aa ab ca
 |cons=>exact c1 h
theorem Rt(aQ:cH w ae cb cm)(bk:eC w ae C n){f:Expr}{as:List Expr}{a6:List Keyword}{p:Pos}(has:∀e,e∈as→bj w ae C n cx e)(s7:∀o x q,f= .Attribute o x q→bj w ae C n cx o):bj w ae C n cx (.Call f as a6 p):=by
 refine bj.of fun aH ah=>?_;refine bC (fun zT ah=>?_) (c0 (show(if a6.isEmpty then DZ cx f as p (u1 cx as) (dv cx as) (D0 cx f)else J)=I aH from ah));obtain rfl:=km.mp zT
 induction f using Expr.casesOn with
 |Name x bq=>
  refine bC (fun aK ah=>?_) (hu (show(if((cx.var x).isSome|| !cx.gl x)=true then J else if dc x "isinstance"=true then _ else(dv cx as).bind (sj x))=I aH from ah))
  simp only[qv,uz,not_or,LR]at aK
  rcases h5 ah with⟨aw,ah⟩|ah
  ·exact Rr aQ aK.2 aw ah has
  ·obtain⟨bg,aa,ah⟩:=aU ah;exact Ro aQ bk has aK.2 aa ah
 |Attribute o x q=>refine bC (fun ar ah=>?_) (hu (show(if(!(q.endLine==p.line&&U (as.length<30)))=true then J else(aW cx o).bind fun po=>(dv cx as).bind fun es=>yF x po es)=I aH from ah));simp only[uz,LR,uy,decide_eq_true_eq]at ar;obtain⟨po,co,ah⟩:=aU ah;obtain⟨bg,aa,ah⟩:=aU ah;exact Rq aQ bk has (s7 _ _ _ rfl) co aa ar.1 ar.2 ah
 |_=>exact c1 ah
theorem Ru(aQ:cH w ae cb cm){e i:Expr}{p:Pos}(he:bj w ae C n cx e)(aw:bj w ae C n cx i):bj w ae C n cx (.Subscript e i p):=by
 refine bj.of fun aH ah=>?_;have plain:((aW cx e).bind fun e=>(aW cx i).map fun i=>ao.item e i)=I aH→e5 w ae C n cx (.Subscript e i p) aH:=fun h=>by obtain⟨tc,ce,h⟩:=aU h;obtain⟨pi,ci,rfl⟩:=omap h;intro A ax G W fm st s pF st' hf R aN;exact OW aQ he aw ce ci ax hf R aN
 induction i using Expr.casesOn with
 |Slice l u sp q=>obtain⟨tc,ce,ah⟩:=aU (show((aW cx e).bind fun e=>yB e l u sp)=I aH from ah);exact Ri he ce ah
 |_=>exact plain ah
theorem Rv(aQ:cH w ae cb cm){a6:List (Option Expr)}{vs:List Expr}{p:Pos}(h:∀e,e∈vs→∀aH,nU cx e=I aH→e5 w ae C n cx e aH):bj w ae C n cx (.Dict a6 vs p):=by
 refine bj.of fun aH ah=>?_
 rcases h5 (show(if(a6.isEmpty&&vs.isEmpty)=true then I ao.cw else if a6.length≠vs.length then J else _)=I aH from ah)with⟨aa,e⟩|ah
 ·obtain⟨aa,ab⟩:=cC.mp aa;cases e;obtain rfl:=km.mp aa;obtain rfl:=km.mp ab;exact PA aQ
 ·obtain⟨ar,ah⟩:=hu ah;obtain⟨eS,ai,ah⟩:=aU ah;obtain⟨bg,ab,rfl⟩:=omap ah;exact PK aQ ai (CQ.mp ar) h ab
theorem Rw(aQ:cH w ae cb cm){elt:Expr}{gens:List Comprehension}{scope:Scope}{p:Pos}
  (h:∀tgt it ifs k,gens=[⟨tgt,it,ifs,k⟩]→bj w ae C n cx it∧(∀f as p,it= .Call f as [] p→∀e,e∈as→bj w ae C n cx e)∧bj w ae C n (d8 cx scope tgt) elt∧∀c,c∈ifs→ST w ae C n (d8 cx scope tgt) c):bj w ae C n cx (.ListComp elt gens scope p):=by
 refine bj.of fun aH ah=>?_
 induction gens using bY with
 |nil=>exact c1 ah
 |cons g r=>
 induction g using Comprehension.casesOn with
 |mk tgt it ifs k=>
 induction r using bY with
 |cons=>exact c1 ah
 |nil=>
  have ai:k=0:=by
   refine bZ (fun ai:k=0=>?_) (fun ai=>?_)
   ·exact ai
   ·refine bC (fun aA ag=>?_) (hu (show(if k≠0 then J else _)=I aH from ah));exact absurd ai aA
  subst ai;obtain⟨aa,ab,aq,ba⟩:=h _ _ _ _ rfl;intro A ax G W fm st s pF st' hf R aN;exact QX aQ aa ab aq ba ah ax hf R aN
end
end
end Mine
end
section
open PySem PySem.W PySem.Calls PyProof.Rows PySem.SeqAt
namespace Mine
noncomputable section
section
theorem jR{S a b m:Nat}(e:S=1+a+b)(h:S<m+1):a<m∧b<m:=⟨uH (qA ‹_› ‹_›),o9 (qA ‹_› ‹_›)⟩
theorem jl{S a b c m:Nat}(e:S=1+a+b+c)(h:S<m+1):a<m∧b<m∧c<m:=⟨uH (jQ (qA ‹_› ‹_›)),o9 (jQ (qA ‹_› ‹_›)),by lia⟩
theorem h3{S a b c d m:Nat}(e:S=1+a+b+c+d)(h:S<m+1):a<m∧b<m∧c<m∧d<m:=⟨uH (jQ (jQ (qA ‹_› ‹_›))),o9 (jQ (jQ (qA ‹_› ‹_›))),by lia,by lia⟩
theorem Rx(aQ:cH w ae cb cm)(bk:eC w ae C n){m:Nat}(aG:∀e:Expr,sizeOf e<m→∀cx,bj w ae C n cx e∧ST w ae C n cx e)(e:Expr)(hm:sizeOf e<m+1)(cx:bV):bj w ae C n cx e∧ST w ae C n cx e:=by
 have mem:∀{es:List Expr} {e:Expr},e∈es→sizeOf es≤m→∀cx,bj w ae C n cx e∧ST w ae C n cx e:=fun h ar=>aG _ (ey (LS h) ar)
 induction e using Expr.casesOn with
 |Constant c k p=>exact⟨GB,k' GB fun ag ag=>rfl⟩
 |Name x p=>exact⟨Et aQ,k' (Et aQ) fun ag ag=>rfl⟩
 |BinOp a o b p=>obtain⟨g5,_,jR,_⟩:=h3 (Expr.BinOp.sizeOf_spec ..) hm;have:bj w ae C n cx (.BinOp a o b p):=N4 (aG a g5 cx).1 (aG b jR cx).1;exact⟨this,k' this fun ag ag=>rfl⟩
 |UnaryOp o a p=>
  have aB:=aG a (jl (Expr.UnaryOp.sizeOf_spec ..) hm).2.1 cx
  induction o using UnaryOp.casesOn with
  |USub=>exact⟨EB aB.1,k' (EB aB.1) fun ag ag=>rfl⟩
  |Not=>exact⟨N5 aB.1,N6 aB.2⟩
  |_=>exact Ap rfl
 |BoolOp op es p=>have hm:=c' (jl (Expr.BoolOp.sizeOf_spec ..) hm).2.1;refine⟨Ou fun e he=>(mem he hm cx).1,?_⟩;intro aH ah A ax G W fm st s b st' hf R aN;exact ET (fun e he=>(mem he hm cx).2) (show cBool cx op es=I aH from ah) ax hf R aN
 |Compare a os bs p=>exact Rm (aG a (h3 (Expr.Compare.sizeOf_spec ..) hm).1 cx).1 fun b bf=>(mem bf (c' (h3 (Expr.Compare.sizeOf_spec ..) hm).2.2.1) cx).1
 |IfExp t a b p=>have a5:=aG t (h3 (Expr.IfExp.sizeOf_spec ..) hm).1 cx;have aB:=aG a (h3 (Expr.IfExp.sizeOf_spec ..) hm).2.1 cx;have bf:=aG b (h3 (Expr.IfExp.sizeOf_spec ..) hm).2.2.1 cx;exact⟨N7 a5.2 aB.1 bf.1,Rj a5.2 aB.2 bf.2⟩
 |Attribute e x p=>
  have he:bj w ae C n cx e:=(aG e (jl (Expr.Attribute.sizeOf_spec ..) hm).1 cx).1;have:bj w ae C n cx (.Attribute e x p):=by
   intro aH ah;have i5:=ah;obtain⟨k,_,aa⟩:=aU (show(jW x).bind _=I aH from i5);obtain⟨tc,ce,_⟩:=omap aa;clear i5 aa;intro A ax G W fm st s pF st' hf R aN;refine OE aQ he (fun env=>?_) ah ax hf R aN;have ay:eval (.Attribute e x p) env=(do
    let o←attributeBase e x env (eval e env)
    standAt p.atName
    let r←holding [o] (getAttr o x true)
    letTemporaryGo e o r
    pure r):=rfl
   erw[ay,Fv ce]
  exact⟨this,k' this fun ag ag=>rfl⟩
 |Subscript e i p=>have:bj w ae C n cx (.Subscript e i p):=Ru aQ (aG e (jl (Expr.Subscript.sizeOf_spec ..) hm).1 cx).1 (aG i (jl (Expr.Subscript.sizeOf_spec ..) hm).2.1 cx).1;exact⟨this,k' this fun ag ag=>rfl⟩
 |Tuple es k p=>have:bj w ae C n cx (.Tuple es k p):=OZ fun e he=>(mem he (c' (jl (Expr.Tuple.sizeOf_spec ..) hm).1) cx).1;exact⟨this,k' this fun ag ag=>rfl⟩
 |List es p=>have:bj w ae C n cx (.List es p):=O0 fun e he=>(mem he (c' (jR (Expr.List.sizeOf_spec ..) hm).1) cx).1;exact⟨this,k' this fun ag ag=>rfl⟩
 |Dict a6 vs p=>
  have hm:=(jl (Expr.Dict.sizeOf_spec ..) hm).2.1;have:bj w ae C n cx (.Dict a6 vs p):=Rv aQ fun e he aH hd=>by
   have lb:=lS (LS he) hm;have plain:∀{e:Expr},sizeOf e<m→aW cx e=I aH→e5 w ae C n cx e aH:=fun h hd=>bj.qX (aG _ h cx).1 hd
   induction e using Expr.casesOn with
   |List es q=>obtain⟨bg,ah,rfl⟩:=omap (show(dv cx es).map ao.jm=I aH from hd);exact Fi (fun e he=>(mem he (c' (jR (Expr.List.sizeOf_spec ..) (lO lb)).1) cx).1) ah
   |Subscript e i q=>refine bC (fun av hd=>?_) (c0 (show(if uZ i then(aW cx e).map ao.pb else J)=I aH from hd));obtain⟨aH,ce,rfl⟩:=omap hd;obtain⟨k,cL,ck,gK,rfl⟩:=Rh av;exact O3 (aG e (jl (Expr.Subscript.sizeOf_spec ..) (lO lb)).1 cx).1 ce
   |_=>exact plain lb hd
  exact⟨this,k' this fun ag ag=>rfl⟩
 |Call f as a6 p=>
  obtain⟨aa,ab,_⟩:=h3 (Expr.Call.sizeOf_spec ..) hm;have:bj w ae C n cx (.Call f as a6 p):=Rt aQ bk (fun e he=>(mem he (c' ab) cx).1) fun o x q e=>by subst e;exact(aG o (jl (Expr.Attribute.sizeOf_spec ..) (lO aa)).1 cx).1
  exact⟨this,k' this fun ag ag=>rfl⟩
 |ListComp elt gens scope p=>
  obtain⟨aa,ab,_⟩:=h3 (Expr.ListComp.sizeOf_spec ..) hm;have:bj w ae C n cx (.ListComp elt gens scope p):=Rw aQ fun tgt it ifs k e=>by subst e;obtain⟨_,aq,ba,_⟩:=h3 (Comprehension.mk.sizeOf_spec ..) (lO (jR (List.cons.sizeOf_spec ..) (lO ab)).1);refine⟨(aG it aq cx).1,fun f as p e a aB=>?_,(aG elt aa _).1,fun c ah=>(mem ah (c' ba) _).2⟩;subst e;exact(mem aB (c' (h3 (Expr.Call.sizeOf_spec ..) (lO aq)).2.1) cx).1
  exact⟨this,k' this fun ag ag=>rfl⟩
 |_=>exact Ap rfl
theorem hc(aQ:cH w ae cb cm)(bk:eC w ae C n)(e:Expr)(cx:bV):bj w ae C n cx e∧ST w ae C n cx e:=by
 have:∀m,∀e:Expr,sizeOf e<m→∀cx,bj w ae C n cx e∧ST w ae C n cx e:=by
  intro m
  induction m with
  |zero=>intro e h;exact absurd h (o5 _)
  |succ m aG=>exact Rx aQ bk aG
 exact this _ e (kk _) cx
end
end
end Mine
end
section
open PySem PySem.W PySem.Calls PyProof.Rows PySem.SeqAt
namespace Mine
noncomputable section
section
variable{cx:bV}{A:Around}{G:Addr→Obj→Prop}{W W':a3}{fm fm':bS}{st st':St}{s:Shared}
def mj(w:World)(ae:Heap)(C:Calls)(n:Nat)(cx:bV)(t:Expr)(pt:dS):Prop:=∀A,d1 n A→∀{G W fm st s x u st'},dw cx fm→Rel w ae G W fm st s→b8 W x u→asg C pt x st=I st'→wpAny (model a4 w) A (assign t fm.env u) (fun ag=>hy w ae G W fm s st') bL s
theorem Ry{x:Str}{p:Pos}{i:Nat}(h:cx.ak x=I i):mj w ae C n cx (.Name x p) (.loc i):=by intro A ax G W fm st s x u st' hf R r aB;cases aB;exact wpAny_mono (vz R hf h r) (fun ag s' q=>⟨W,.rfl,q.1,q.2⟩) fun ag ag x=>x
theorem Rz(aQ:cH w ae cb cm){e:Expr}{k:Nat}{p:Pos}{aH:ao}(he:bj w ae C n cx e)(ce:aW cx e=I aH):mj w ae C n cx (.Attribute e (nm k) p) (.attr aH k):=by
 intro A ax G W fm st s x u st' hf R r aB;obtain⟨o,s1,iZ,aa⟩:=b2 (show aY (aj C aH st) (fun o st=>st.setAttr o k x)=I st' from aB);show wpAny _ A (do
  let jw←holding [u] (eval e fm.env)
  standAt p.atName
  holding [u,jw] (setAttr jw (nm k) u)
  release [u,jw] []) _ _ s
 refine wpAny_bind (wpAny_holding (dm (he ce ax hf R iZ) fun jw s₁ W1 aM aZ a8 a0=>?_));refine wpAny_bind (wpAny_standAt (wpAny_bind (wpAny_holding (wpAny_mono (OK aQ aZ a8 (r.mono aM) aa) (fun ag s₂ q=>?_) fun ag ag x=>x))));exact wpAny_releaseD (hy.step aM a0 q)
set_option backward.match.sparseCases true in
theorem RA(aQ:cH w ae cb cm){e i:Expr}{p:Pos}{aH pi:ao}(he:bj w ae C n cx e)(aw:bj w ae C n cx i)(ce:aW cx e=I aH)(ci:aW cx i=I pi):mj w ae C n cx (.Subscript e i p) (.item aH pi):=by
 intro A ax G W fm st s x u st' hf R r aB;obtain⟨o,s1,iZ,aa⟩:=b2 (show aY (aj C aH st) (fun o st=>aY (aj C pi st) fun j st=>st.setItem o j x)=I st' from aB);obtain⟨j,s2,pz,ab⟩:=b2 aa;show wpAny _ A (do
  let jw←holding [u] (eval e fm.env)
  let te←holding [u,jw] (eval i fm.env)
  standAt p
  holding [u,jw,te] (setItem jw te u)
  release (match(generalizing:=false) i with| .Slice _ _ J _=>[te,u,jw]|_=>[u,jw,te]) []) _ _ s
 refine wpAny_bind (wpAny_holding (dm (he ce ax hf R iZ) fun jw s₁ W1 aM aZ a8 a0=>?_));refine wpAny_bind (wpAny_holding (dm (aw ci ax hf aZ pz) fun te s₂ cN bt cy b3 cK=>?_));refine wpAny_bind (wpAny_standAt (wpAny_bind (wpAny_holding (wpAny_mono (Fb aQ cy (a8.mono bt) b3 (r.mono (aM.trans bt)) ab) (fun ag gO q=>?_) fun ag ag x=>x))));exact wpAny_releaseD (hy.step (aM.trans bt) (cK.trans a0) q)
theorem b5.GG:∀{vs:List V} {us:List Value},b5 W vs us→cM W (vs.map .v) us:=by
 intro aT
 induction aT with
 |nil=>intro _ h;erw[h.u4];trivial
 |cons v vs aD=>intro _ h;obtain⟨u,us,rfl,a,b⟩:=h.sm;exact⟨a,aD b⟩
theorem cM.length:∀{xs:List X} {us:List Value},cM W xs us→us.length=xs.length
 |[],[],_=>rfl
 |_::_,_::_,h=>by simp[cM.length h.2]
 |[],_::_,h=>h.elim
 |_::_,[],h=>h.elim
theorem vV{t:Expr}{ts:List Expr}{fX:dI}(h:jY cx (t::ts)=I fX):∃a b,iz cx t=I a∧jY cx ts=I b∧fX= .cons a b:=by refine eA fun cF=>?_;obtain⟨a,aa,h⟩:=aU (show(iz cx t).bind _=_ from h);obtain⟨b,ab,rfl⟩:=omap h;refine cF ?_;exact⟨a,b,aa,ab,rfl⟩
theorem Aq{t:Expr}{ts:List Expr}{pt:dS}{env:Env}(h:iz cx t=I pt):assignEach (t::ts) env=(false,assign t env)::assignEach ts env:=by
 induction t using Expr.casesOn<;>first|rfl|exact c1 h
theorem GH{env:Env}:∀{ts:List Expr} {fX:dI},jY cx ts=I fX→(assignEach ts env).length=ts.length∧(assignEach ts env).findIdx? (·.1)=J:=by
 intro aT
 induction aT with
 |nil=>intro _ _;exact⟨rfl,rfl⟩
 |cons t ts aD=>intro _ h;obtain⟨a,b,aa,ab,rfl⟩:=vV h;obtain⟨cY,dt⟩:=aD ab;erw[Aq aa];exact⟨by simp[cY],by erw[Z',dt];rfl⟩
inductive GI(C:Calls)(t:dS)(ts:dI)(xs:List X)(st st':St):Prop where
 |mk (x:X) (r:List X) (e:xs=x::r) (s1:St) (h:asg C t x st=I s1) (ab:gb C ts r s1=I st'):GI C t ts xs st st'
theorem Ar{t:dS}{ts:dI}{xs:List X}(h:gb C (.cons t ts) xs st=I st'):GI C t ts xs st st':=by
 obtain⟨x,aC,aa⟩:=aU (show xs.head?.bind (fun x=>(asg C t x st).bind fun st=>gb C ts xs.tail st)=I st' from h);obtain⟨s1,ab,aq⟩:=aU aa
 induction xs using bY with
 |nil=>cases aC
 |cons y r=>cases aC;exact⟨_,r,rfl,s1,ab,aq⟩
theorem As{xs:List X}(h:gb C .nil xs st=I st'):xs=[]∧st'=st:=by refine bC (fun aa ab=>?_) (c0 (show(if xs.isEmpty then I st else J)=I st' from h));cases ab;exact⟨km.mp aa,rfl⟩
theorem GJ{f:Value→Sem Unit}{fs:List (Value→Sem Unit)}{v:Value}{vs:List Value}:assignInOrder (f::fs) (v::vs)=(do holding vs (f v);assignInOrder fs vs):=rfl
theorem GK:∀{ts:List Expr} {fX:dI},jY cx ts=I fX→(∀t,t∈ts→∀pt,iz cx t=I pt→mj w ae C n cx t pt)→∀{A},d1 n A→∀{G W fm st s xs us st'},dw cx fm→Rel w ae G W fm st s→cM W xs us→gb C fX xs st=I st'→wpAny (model a4 w) A (assignInOrder ((assignEach ts fm.env).map (·.2)) us) (fun ag=>hy w ae G W fm s st') bL s:=by
 intro aT
 induction aT with
 |nil=>
  intro _ ah _ _ _ _ _ _ _ _ xs us _ _ R r aB;cases ah;obtain⟨rfl,rfl⟩:=As aB
  induction us using bY with
  |nil=>exact wpAny_pure ⟨_,.rfl,R,rfl⟩
  |cons=>exact r.elim
 |cons t ts aD=>
  intro _ ah h A ax _ _ fm _ s xs us _ hf R r aB;obtain⟨a,b,aa,ab,rfl⟩:=vV ah;obtain⟨x,xs,rfl,s1,bT,RB⟩:=Ar aB
  induction us using bY with
  |nil=>exact r.elim
  |cons u us=>erw[Aq aa];show wpAny _ _ (assignInOrder (assign t fm.env::(assignEach ts fm.env).map (·.2)) (u::us)) _ _ _;erw[GJ];refine wpAny_bind (wpAny_holding (sE (h t (.head _) a aa _ ax hf R r.1 bT) fun ag s' W1 aM aZ a0=>?_));exact wpAny_mono (aD ab (fun t a5=>h t (.tail _ a5)) ax hf aZ (r.2.mono aM) RB) (fun ag mf gu=>hy.step aM a0 gu) fun ag ag x=>x
theorem GL:∀{ts:List Expr} {fX:dI} {xs:List X} {st:St},jY cx ts=I fX→gb C fX xs st=I st'→ts.length=xs.length:=by
 intro aT
 induction aT with
 |nil=>
  intro _ _ _ ah aB;cases ah;obtain⟨rfl,_⟩:=As aB
  rfl
 |cons t ts aD=>intro _ _ _ ah aB;obtain⟨_,_,_,ab,rfl⟩:=vV ah;obtain⟨x,r,rfl,s1,_,h⟩:=Ar aB;erw[gA,gA,aD ab h]
theorem RC{ts:List Expr}{k:Nat}{p:Pos}{fX:dI}(ah:jY cx ts=I fX)(h:∀t,t∈ts→∀pt,iz cx t=I pt→mj w ae C n cx t pt):mj w ae C n cx (.Tuple ts k p) (.tup fX):=by intro A ax G W fm st s x u st' hf R r aB;obtain⟨vs,aC,aB⟩:=aU (show(uS x).bind (fun vs=>gb C fX (vs.map .v) st)=I st' from aB);obtain rfl:=EA aC;obtain⟨us,l,dH,rfl,ay,bO⟩:=n7 R r;refine bC (fun a b=>?_) (GH (env:=fm.env) ah);have hlen:=GL ah aB;rw[bF]at hlen;refine wpAny_assign_Tuple (items:=us.toArray) ax.h ⟨_,ay,rfl,_,rfl⟩ (by erw[a,hlen,jh,bO.1]) b fun h' ai=>?_;exact sE (GK ah h ax hf (R.keep (h':=h') (k:=s.toks) fun b o e=>ai b o (ki (Heap.lt_size e)) e) bO.GG aB) fun ag ag W1 a b c=>⟨W1,a,b,c⟩
theorem RD(aQ:cH w ae cb cm)(bk:eC w ae C n){m:Nat}(aG:∀t:Expr,sizeOf t<m→∀pt,iz cx t=I pt→mj w ae C n cx t pt)(t:Expr)(hm:sizeOf t<m+1)(pt:dS)(h:iz cx t=I pt):mj w ae C n cx t pt:=by
 induction t using Expr.casesOn with
 |Name x p=>obtain⟨i,aw,rfl⟩:=omap (show(cx.ak x).map dS.loc=I pt from h);exact Ry aw
 |Attribute e x p=>obtain⟨k,ai,h⟩:=aU (show(jW x).bind _=I pt from h);obtain⟨aH,ce,rfl⟩:=omap h;erw[sF ai];exact Rz aQ (hc aQ bk e cx).1 ce
 |Subscript e i p=>obtain⟨aH,ce,h⟩:=aU (show(aW cx e).bind _=I pt from h);obtain⟨pi,ci,rfl⟩:=omap h;exact RA aQ (hc aQ bk e cx).1 (hc aQ bk i cx).1 ce ci
 |Tuple ts k p=>obtain⟨fX,aa,rfl⟩:=omap (show(jY cx ts).map dS.tup=I pt from h);simp only[Expr.Tuple.sizeOf_spec]at hm;exact RC aa fun t a5=>aG t (by have:=LS a5;lia)
 |_=>exact c1 h
theorem GN(aQ:cH w ae cb cm)(bk:eC w ae C n){t:Expr}{pt:dS}(h:iz cx t=I pt):mj w ae C n cx t pt:=by
 have:∀m,∀t:Expr,sizeOf t<m→∀pt,iz cx t=I pt→mj w ae C n cx t pt:=by
  intro m
  induction m with
  |zero=>intro e h;exact absurd h (o5 _)
  |succ m aG=>exact RD aQ bk aG
 exact this _ t (kk _) pt h
end
end
end Mine
end
section
open PySem PySem.W PySem.Calls PyProof.Rows PySem.SeqAt
namespace Mine
noncomputable section
section
variable{cx:bV}{A:Around}{G:Addr→Obj→Prop}{W W':a3}{fm fm':bS}{st st':St}{s:Shared}
theorem RE(aQ:cH w ae cb cm){f:Str}{bq p:Pos}{a:Expr}{bx:ao}(aB:bj w ae C n cx a)(aC:cx.gl f=true)(ar:dc f "list"=true)(ca:aW cx a=I bx):e5 w ae C n cx (.Call (.Name f bq) [a] [] p) (.r9 bx):=by
 intro A ax G W fm st s v st' hf R aN;obtain⟨x,s1,bT,aa⟩:=b2 (show aY (aj C bx st) _=I (v,st')from aN);obtain⟨b,aJ,ab⟩:=aU aa;obtain⟨aS,aL,aq⟩:=aU ab;refine bC (fun eH ba=>?_) (oc aq);clear aN aa ab aq;cases ba;have RF:k5 f n1=I .list:=by erw[beq_iff_eq.mp ar];kernel_rfl
 refine Call_ (Fm aQ R hf aC RF (zH (fun e he=>by rw[dY]at he;subst he;exact aB) (sP ca) ax hf R (vv bT) (Ft .list) fun us W1 s' aM aZ a0 a8=>?_));have m3:vals s1 [x]=I [b]:=by show(s1.val x).bind _=_;erw[aJ];rfl
 obtain⟨l,T,qZ,k,rfl,e,bO,d'⟩:=zE aZ a8 m3 aL;refine call_list_seq l (d'.elim (fun h=>.inl h.1) fun h=>.inr h.1) e rfl rfl (fun h' dr ai e=>?_) (by have:=hA eH;erw[jh,bO.1];exact this);have le:W1.le {W1 with p:=W1.p++[(s'.heap.objs.size,s'.heap.objs.size)]}:=⟨fun ag ag h=>h,ir _,o3 _ _⟩
 refine⟨{W1 with p:=W1.p++[(s'.heap.objs.size,s'.heap.objs.size)]},aM.trans le,(aZ.keep (k:=s'.toks) ai).n6 (q:=(s'.heap.objs.size,s'.heap.objs.size)) (c:=.lst aS) (aZ.h7 (bE _)) ⟨rfl,qZ,⟨dr,e⟩,bO.mono le⟩,⟨(s'.heap.objs.size,s'.heap.objs.size),?_,rfl⟩,a0⟩;erw[←aZ.len,iR (bE _),kY];rfl
theorem RG{e:Expr}{es:List Expr}(h:listOf e=I es):∃p,e= .List es p:=by induction e using Expr.casesOn<;>cases h;exact⟨_,rfl⟩
theorem GO{e:Expr}{es:List Expr}(h:k7 e=I es):∃k p,e= .Tuple es k p:=by induction e using Expr.casesOn<;>cases h;exact⟨_,_,rfl⟩
theorem GP(aQ:cH w ae cb cm)(bk:eC w ae C n){e:Expr}{aH:ao}(h:pq cx e=I aH):e5 w ae C n cx e aH:=by
 unfold pq at h;cases he:listOf e with
 |some es=>rw[he]at h;obtain⟨p,rfl⟩:=RG he;obtain⟨bg,aa,rfl⟩:=omap (show(dv cx es).map ao.jm=I aH from h);exact Fi (fun e he=>(hc aQ bk e cx).1) aa
 |none=>rw[he]at h;exact bj.qX (hc aQ bk e cx).1 h
theorem RH{e a:Expr}(h:u2 cx e=I a):∃x bq p,e= .Call (.Name x bq) [a] [] p∧cx.gl x=true∧dc x "list"=true:=by
 obtain⟨f,as,a6,p,rfl,h⟩:=FI h
 induction as using bY with
 |nil=>exact c1 h
 |cons b as=>
 induction as using bY with
 |cons=>exact c1 h
 |nil=>obtain⟨x,bq,rfl,h⟩:=zO h;obtain⟨hh,h⟩:=c0 h;cases h;obtain⟨aa,ba⟩:=cC.mp hh;obtain⟨ab,aq⟩:=cC.mp aa;obtain rfl:=km.mp ba;exact⟨x,bq,p,rfl,aq,(cC.mp ab).1⟩
theorem RI(aQ:cH w ae cb cm)(bk:eC w ae C n){e:Expr}{aH:ao}(h:u3 cx e=I aH):e5 w ae C n cx e aH:=by
 unfold u3 at h;cases aB:u2 cx e with
 |some a=>rw[aB]at h;obtain⟨x,bq,p,rfl,aa,ab⟩:=RH aB;obtain⟨bx,ca,rfl⟩:=omap (show(aW cx a).map ao.r9=I aH from h);exact RE aQ (hc aQ bk a cx).1 aa ab ca
 |none=>rw[aB]at h;exact GP aQ bk h
theorem GQ(aQ:cH w ae cb cm)(bk:eC w ae C n){t e:Expr}{aH:ao}(h:l1 cx t e=I aH):e5 w ae C n cx e aH:=by
 rcases h5 h with⟨_,h⟩|h
 ·exact RI aQ bk h
 ·exact bj.qX (hc aQ bk e cx).1 h
theorem GR{t e:Expr}{ts es:List Expr}{bg:az}(h:n2 cx (t::ts) (e::es)=I bg):∃a b,l1 cx t e=I a∧n2 cx ts es=I b∧bg= .cons a b:=by refine eA fun cF=>?_;obtain⟨a,aa,h⟩:=aU (show(l1 cx t e).bind _=_ from h);obtain⟨b,ab,rfl⟩:=omap h;refine cF ?_;exact⟨a,b,aa,ab,rfl⟩
theorem RJ{t e:Expr}{rest:List Expr}{env:Env}{aH:ao}(h:l1 cx t e=I aH):starEach (e::rest) env=(false,eval e env)::starEach rest env:=Fg fun a q e=>by
  subst e
  rcases h5 h with⟨_,h⟩|h<;>exact c1 h
theorem RK:∀{ts es:List Expr} {bg:az},n2 cx ts es=I bg→ts.length=es.length:=by
 intro ts
 induction ts with
 |nil=>
  intro es _ h
  induction es using bY with
  |nil=>rfl
  |cons=>exact c1 h
 |cons t ts aD=>
  intro es _ h
  induction es using bY with
  |nil=>exact c1 h
  |cons e es=>obtain⟨a,b,_,ab,_⟩:=GR h;exact congrArg (· +1) (aD ab)
theorem RL(aQ:cH w ae cb cm)(bk:eC w ae C n){pos:Pos}:∀{ts es:List Expr} {bg:az},n2 cx ts es=I bg→∀{A},d1 n A→∀{G W fm st s xs st'},dw cx fm→Rel w ae G W fm st s→dq C bg st=I (xs,st')→wpAny (model a4 w) A (spliced (backTo pos (starEach es fm.env))) (vm w ae G W fm s st' xs) bL s:=by
 intro ts
 induction ts with
 |nil=>
  intro es bg ah A ax G W fm st s xs st' hf R aN
  induction es using bY with
  |nil=>cases ah;cases aN;exact args_nil ⟨_,.rfl,R,trivial,rfl⟩
  |cons=>exact c1 ah
 |cons t ts aD=>
  intro es bg ah A ax G W fm st s xs st' hf R aN
  induction es using bY with
  |nil=>exact c1 ah
  |cons e es=>obtain⟨a,b,aa,ab,rfl⟩:=GR ah;obtain⟨x,s1,bT,aS,cU,rfl⟩:=zM aN;exact args_cons (dm (GQ aQ bk aa _ ax hf R bT) fun u s₁ W1 aM aZ a8 a0=>qV (aD ab ax hf aZ cU) fun v s₂ cN bt cy b3 cK=>⟨cN,aM.trans bt,cy,⟨a8.mono bt,b3⟩,cK.trans a0⟩) (RJ aa)
theorem RM(st:St){i j:Nat}(x y:X)(h:i≠j):(st.f' i x).f' j y=(st.f' j y).f' i x:=by simp only[St.f',List.set_comm _ _ h]
theorem RN:∀{is:List Nat} {xs:List X} {st:St} {i:Nat} {x:X},i ∉ is→ix is xs (st.f' i x)=(ix is xs st).f' i x:=by
 intro is
 induction is with
 |nil=>intro xs _ _ _ _;induction xs using bY<;>rfl
 |cons j is aD=>
  intro xs st i x h
  induction xs using bY with
  |nil=>rfl
  |cons y xs=>show ix is xs ((st.f' i x).f' j y)=(ix is xs (st.f' j y)).f' i x;erw[RM st x y (fun e=>h (by erw[e];exact .head _)),aD fun hm=>h (.tail _ hm)]
theorem RO:∀{is vW:List Nat} {xs aS:List X} {st:St},is.length=xs.length→ix (is++vW) (xs++aS) st=ix vW aS (ix is xs st):=by
 intro is
 induction is with
 |nil=>
  intro vW xs aS st h
  induction xs using bY with
  |nil=>rfl
  |cons=>exact nomatch h
 |cons i is aD=>
  intro vW xs aS st h
  induction xs using bY with
  |nil=>exact nomatch h
  |cons x xs=>exact aD (st:=st.f' i x) (Nat.succ.inj h)
theorem RP:∀{is:List Nat} {xs:List X} {st:St},is.Nodup→is.length=xs.length→ix is.reverse xs.reverse st=ix is xs st:=by
 intro is
 induction is with
 |nil=>
  intro xs _ _ h
  induction xs using bY with
  |nil=>rfl
  |cons=>exact nomatch h
 |cons i is aD=>
  intro xs st aA ar
  induction xs using bY with
  |nil=>exact nomatch ar
  |cons x xs=>refine bC (fun aa ab=>?_) (jg.mp aA);erw[mE,mE,RO ((ff ..).trans ((Nat.succ.inj ar).trans (ff ..).symm)),aD ab (Nat.succ.inj ar)];show(ix is xs st).f' i x=ix is xs (st.f' i x);erw[RN aa]
theorem RQ(hf:dw cx fm):∀{ns:List Str} {is:List Nat} {xs:List X} {us:List Value} {st:St} {s:Shared},(∀(j:Nat) (x:Str) (i:Nat),ns[j]? =I x→is[j]? =I i→cx.ak x=I i)→ns.length=is.length→Rel w ae G W fm st s→cM W xs us→ns.length=xs.length→wpAny (model a4 w) A (assignInOrder (ns.map fun x=>bindName fm.env x) us) (fun ag s'=>Rel w ae G W fm (ix is xs st) s'∧s'.os=s.os) bL s:=by
 intro ns
 induction ns with
 |nil=>
  intro is xs us st s h ar R r om
  induction is using bY with
  |cons=>exact nomatch ar
  |nil=>
  induction xs using bY with
  |cons=>exact nomatch om
  |nil=>
  induction us using bY with
  |cons=>exact r.elim
  |nil=>exact wpAny_pure ⟨R,rfl⟩
 |cons x ns aD=>
  intro is xs us st s h ar R r om
  induction is using bY with
  |nil=>exact nomatch ar
  |cons i is=>
  induction xs using bY with
  |nil=>exact nomatch om
  |cons y xs=>
  induction us using bY with
  |nil=>exact r.elim
  |cons u us=>
  show wpAny _ _ (assignInOrder (bindName fm.env x::ns.map fun x=>bindName fm.env x) (u::us)) _ _ _;rw[GJ];refine wpAny_bind (wpAny_holding (wpAny_mono (wpAny_bindName (zU (v:=y) R hf (h 0 x i rfl rfl) r.1)) (fun ag s' q=>?_) fun ag ag x=>x));exact wpAny_mono (aD (fun j x i a b=>h (j+1) x i a b) (Nat.succ.inj ar) q.1 r.2 (Nat.succ.inj om)) (fun ag mf gu=>⟨gu.1,gu.2.trans q.2⟩) fun ag ag x=>x
end
end
end Mine
end
section
open PySem PySem.W PySem.Calls PyProof.Rows PySem.SeqAt
namespace Mine
noncomputable section
noncomputable def vX(W:a3):R→Flow→Prop
 | .next,.next=>True
 | .cont,.cont=>True
 | .ret x,.ret v=>b8 W x v
 |_,_=>False
inductive lr(w:World)(ae:Heap)(G:Addr→Obj→Prop)(W:a3)(fm:bS)(s:Shared)(st':St)(r:R)(dB:Flow)(s':Shared):Prop where
 |mk (W':a3) (l:W.le W') (R:Rel w ae G W' fm st' s') (f:vX W' r dB) (o:s'.os=s.os):lr w ae G W fm s st' r dB s'
def jA(w:World)(ae:Heap)(C:Calls)(n:Nat)(cx:bV)(x:Stmt)(c6:c8):Prop:=∀A,d1 n A→∀{G W fm st s r st'},dw cx fm→Rel w ae G W fm st s→iU C c6 st=I (r,st')→wpAny (model a4 w) A (exec x fm.env) (lr w ae G W fm s st' r) bL s
def ow(w:World)(ae:Heap)(C:Calls)(n:Nat)(cx:bV)(x:List Stmt)(c6:bD):Prop:=∀A,d1 n A→∀{G W fm st s r st'},dw cx fm→Rel w ae G W fm st s→bI C c6 st=I (r,st')→wpAny (model a4 w) A (execs x fm.env) (lr w ae G W fm s st' r) bL s
set_option backward.match.sparseCases true in
noncomputable def j2(env:Env)(line:Nat):Expr→Option Str
 | .Name id pos=>if env.kindOf id==I .local&&pos.line==line then I id else J
 |_=>J
theorem GS:∀(k:Nat) {l:List Str},l.length≤k→l.eraseDups.length≤l.length
 |_,[],_=>by erw[List.eraseDups_nil];exact bE _
 |k+1,a::as,h=>by erw[aab];have aa:=LU (fun b=> !b==a) as;exact jf (bR (GS k (bR aa (o6 h))) aa)
theorem RS{l:List Str}:l.eraseDups.length=l.length→l.Nodup:=by
 induction l with
 |nil=>exact fun ag=>.nil
 |cons a as aG=>intro h;rw[aab]at h;have h:=Nat.succ.inj h;have e:=rU (LU _ as) (bR (eQ h.symm) (GS _ (bE _)));have au:=List.length_filter_eq_length_iff.mp e;replace h:=(List.filter_eq_self.mpr au)▸h;exact jg.mpr ⟨fun hm=>(by have:=au a hm;rw[beq_self_eq_true]at this;cases this),aG h⟩
theorem RT{α:Type}{ef e6 fW m6 Au:Prop}[Decidable ef][Decidable e6][Decidable fW][Decidable m6][Decidable Au]{X A RU B:α}(e:X=if ef then A else if e6 then A else if fW then A else if m6 then A else if Au then RU else B)(h:¬m6→¬Au):X=A∨(¬fW∧X=B):=by
 refine bZ (fun aa:ef=>?_) (fun aa=>?_)
 ·exact .inl (e.trans (if_pos aa))
 have e:=e.trans (if_neg aa);refine bZ (fun ab:e6=>?_) (fun ab=>?_)
 ·exact .inl (e.trans (if_pos ab))
 have e:=e.trans (if_neg ab);refine bZ (fun aq:fW=>?_) (fun aq=>?_)
 ·exact .inl (e.trans (if_pos aq))
 have e:=e.trans (if_neg aq);refine bZ (fun ba:m6=>?_) (fun ba=>?_)
 ·exact .inl (e.trans (if_pos ba))
 exact .inr ⟨aq,(e.trans (if_neg ba)).trans (if_neg (h ba))⟩
set_option backward.match.sparseCases true in
theorem RV{ts vs:List Expr}{kt kv:Nat}{pt pv:Pos}{env:Env}(h:sk vs=true):swappedStores [.Tuple ts kt pt] (.Tuple vs kv pv) env=pure J∨
  ∃line,swappedStores [.Tuple ts kt pt] (.Tuple vs kv pv) env=pure (I (ts.filterMap (j2 env line)))∧(ts.filterMap (j2 env line)).length=ts.length∧(ts.filterMap (j2 env line)).Nodup:=by
 have e:swappedStores [.Tuple ts kt pt] (.Tuple vs kv pv) env=(if(!(ts.length==2||ts.length==3)||vs.length !=ts.length||env.blockKind != .function)=true then pure J else
   if(vs.any fun| .Starred .. =>true|_=>false)=true then pure J else
   if((ts.filterMap (j2 env ((ts.head?.map (·.pos.line)).getD 0))).length !=ts.length||(ts.filterMap (j2 env ((ts.head?.map (·.pos.line)).getD 0))).eraseDups.length !=(ts.filterMap (j2 env ((ts.head?.map (·.pos.line)).getD 0))).length)=true then pure J else
   if vs.all (foldedForSure 8)=true then pure J else
   if vs.all (constantsAlone 8)=true then unsupported "assign.tuple-of-constant-expressions:order-of-the-stores" else pure (I (ts.filterMap (j2 env ((ts.head?.map (·.pos.line)).getD 0))))):=rfl
 rcases RT e fun vY b0=>vY (by have:=(cC.mp h).2;replace this:=b0▸this;exact this)with h|⟨aq,ae⟩
 ·exact .inl h
 ·refine bC (fun a b=>?_) (aac.mp (Bool.eq_false_iff.mpr aq));exact .inr ⟨_,ae,bne_eq_false_iff_eq.mp a,RS (bne_eq_false_iff_eq.mp b)⟩
theorem RW{env:Env}{line:Nat}{ts:List Expr}:(ts.filterMap (j2 env line)).length=ts.length→∀(j:Nat) x,(ts.filterMap (j2 env line))[j]? =I x→∃p,ts[j]? =I (.Name x p):=by
 induction ts with
 |nil=>intro _ j x h;exact c1 h
 |cons t ts aG=>
  intro ar j x h;rw[uA]at ar h;generalize aV:j2 env line t=o at ar h
  rcases o with _|y
  ·exact absurd (aad (j2 env line) ts) (Nat.not_le.mpr (rT (kk _) ar.symm))
  ·induction j using fe with
   |zero=>
    cases Option.some.inj h
    induction t using Expr.casesOn with
    |Name id pos=>cases Option.some.inj (c0 (show(if(env.kindOf id==I .local&&pos.line==line)=true then I id else J)=I _ from aV)).2;exact⟨pos,rfl⟩
    |_=>exact c1 aV
   |succ j=>exact aG (Nat.succ.inj ar) j x h
section
variable{cx:bV}{A:Around}{G:Addr→Obj→Prop}{W W':a3}{fm fm':bS}{st st':St}{s:Shared}
theorem GU{M:Model}{E:Value→Shared→Prop}{env:Env}{t value:Expr}{pos:Pos}{Q:Flow→Shared→Prop}(h:wpAny M A (eval value env) (fun v s₁=>wpAny M A (assign t env v) (fun ag=>Q .next) E s₁) E s)
  (aL:swapsWith value (I t) pos.line env=pure false) (hw:swappedStores [t] value env=pure J) (he:(assignEach [t] env).map (·.2)=[assign t env]):wpAny M A (exec (.Assign [t] value pos) env) Q E s:=by
 erw[exec_Assign];refine wpAny_bind (wpAny_standAt ?_);show wpAny M A (swapsWith value (I t) pos.line env>>=_) _ _ _;erw[aL];refine wpAny_bind (wpAny_pure ?_);erw[if_neg (by decide)];refine wpAny_bind (wpAny_mono h (fun v s₁ h₁=>?_) fun ag ag x=>x);erw[hw,he];refine wpAny_bind (wpAny_pure ?_);show wpAny M A (do assignAll v [assign t env];pure .next) Q E s₁;exact wpAny_bind (wpAny_mono h₁ (fun ag ag x=>wpAny_pure x) fun ag ag x=>x)
theorem RX{t e:Expr}{line:Nat}{env:Env}{aH:ao}(h:l1 cx t e=I aH):(∃elt gens sc p,e= .ListComp elt gens sc p)∨swapsWith e (I t) line env=pure false:=by
 have no:∀{x:Expr},x=e→aW cx x=none→pq cx x=none→u2 cx x=none→False:=by
  rintro x rfl aa ab aq;unfold l1 u3 at h;replace h:=aq▸(ab▸(aa▸h))
  rcases h5 h with⟨_,h⟩|h<;>exact c1 h
 induction e using Expr.casesOn<;>first|exact .inl ⟨_,_,_,_,rfl⟩|exact .inr rfl|exact(no rfl rfl rfl rfl).elim
theorem RY{t e:Expr}{env:Env}{pt:dS}(h:iz cx t=I pt)(aA:k7 t=J∨k7 e=J):swappedStores [t] e env=pure J:=by
 induction t using Expr.casesOn<;>first|rfl|exact c1 h|skip
 rcases aA with aA|aA
 ·cases aA
 ·induction e using Expr.casesOn<;>first|rfl|cases aA
theorem RZ{elt:Expr}{gens:List Comprehension}{scope:Scope}{p:Pos}{aH:ao}(h:aW cx (.ListComp elt gens scope p)=I aH):∃tgt it ifs,gens=[⟨tgt,it,ifs,0⟩]:=by
 induction gens using bY with
 |nil=>exact c1 h
 |cons g r=>
 induction g using Comprehension.casesOn with
 |mk tgt it ifs k=>
 induction r using bY with
 |cons=>exact c1 h
 |nil=>
  refine bZ (fun ai:k=0=>?_) (fun ai=>?_)
  ·subst ai;exact⟨tgt,it,ifs,rfl⟩
  ·refine bC (fun aA ag=>?_) (hu (show(if k≠0 then J else _)=I aH from h));exact absurd ai aA
theorem R0(aQ:cH w ae cb cm)(bk:eC w ae C n){t e:Expr}{p:Pos}{pt:dS}{aH:ao}(a5:iz cx t=I pt)(aJ:l1 cx t e=I aH)(aA:k7 t=J∨k7 e=J):jA w ae C n cx (.Assign [t] e p) (.assign pt aH):=by
 intro A ax G W fm st s r st' hf R aC;obtain⟨x,s1,ev,aa⟩:=b2 (show aY (aj C aH st) (fun x st=>(asg C pt x st).map fun st=>(Mine.R.next,st))=I (r,st')from aC);obtain⟨s2,aB,ab⟩:=omap aa;clear aC aa;cases ab;have plain:swapsWith e (I t) p.line fm.env=pure false→wpAny (model a4 w) A (exec (.Assign [t] e p) fm.env) (lr w ae G W fm s s2 .next) bL s:=fun aL=>by refine GU ?_ aL (RY a5 aA) (by erw[Aq a5];rfl);exact dm (GQ aQ bk aJ _ ax hf R ev) fun v s₁ W1 aM aZ a8 a0=>sE (GN aQ bk a5 _ ax hf aZ a8 aB) fun ag s₂ cN bt cy cK=>⟨cN,aM.trans bt,cy,trivial,cK.trans a0⟩
 rcases RX (line:=p.line) (env:=fm.env) aJ with⟨elt,gens,sc,q,rfl⟩|aL
 ·induction t using Expr.casesOn with
  |Name y py=>
   have i4:∃b,swapsWith (.ListComp elt gens sc q) (I (.Name y py)) p.line fm.env=pure b:=⟨_,rfl⟩
   obtain⟨b,i4⟩:=i4
   induction b using hL with
   |false=>exact plain i4
   |true=>
    have ce:aW cx (.ListComp elt gens sc q)=I aH:=by
     rcases h5 aJ with⟨_,h⟩|h<;>exact h
    obtain⟨i,aw,rfl⟩:=omap (show(cx.ak y).map dS.loc=I pt from a5);cases aB;obtain⟨tgt,it,ifs,rfl⟩:=RZ ce;exact QY aQ i4 ce (hc aQ bk it cx).1 (fun f as p e a aB=>(hc aQ bk a cx).1) (hc aQ bk elt _).1 (fun c ah=>(hc aQ bk c _).2) aw ax hf R ev fun s' q=>by obtain⟨W1,aM,aZ,a0⟩:=q;exact⟨W1,aM,aZ,trivial,a0⟩
  |_=>exact plain rfl
 ·exact plain aL
theorem R1:∀{ts:List Expr} {fX:dI} {ns:List Str} {xs:List X} {st st':St},jY cx ts=I fX→ns.length=ts.length→(∀(j:Nat) x,ns[j]? =I x→∃p,ts[j]? =I (.Name x p))→gb C fX xs st=I st'→∃is:List Nat,(∀(j:Nat) (x:Str) (i:Nat),ns[j]? =I x→is[j]? =I i→cx.ak x=I i)∧ns.length=is.length∧ix is xs st=st':=by
 intro ts
 induction ts with
 |nil=>
  intro fX ns xs st st' ah ar h aB
  induction ns using bY with
  |cons=>exact nomatch ar
  |nil=>
  cases ah;obtain⟨rfl,rfl⟩:=As aB;exact⟨[],fun j x i h=>(by simp at h),rfl,rfl⟩
 |cons t ts aD=>
  intro fX ns xs st st' ah ar h aB
  induction ns using bY with
  |nil=>exact nomatch ar
  |cons y ns=>
  obtain⟨a,b,aa,ab,rfl⟩:=vV ah;obtain⟨p,hp⟩:=h 0 y rfl;simp only[List.getElem?_cons_zero,Option.some.injEq]at hp;subst hp;obtain⟨i,aw,rfl⟩:=omap (show(cx.ak y).map dS.loc=I a from aa);obtain⟨x,xs,rfl,s1,bT,aB⟩:=Ar aB;cases bT;obtain⟨is,cY,dt,gw⟩:=aD (ns:=ns) ab (Nat.succ.inj ar) (fun j x a'=>by simpa using h (j+1) x (by simpa using a')) aB;refine⟨i::is,fun j x k a' ai=>?_,by simp[dt],gw⟩
  induction j using fe with
  |zero=>simp at a' ai;subst a' ai;exact aw
  |succ j=>exact cY j x k (by simpa using a') (by simpa using ai)
theorem R2{P:Str→Nat→Prop}(inj:∀x y i,P x i→P y i→x=y):∀{ns:List Str} {is:List Nat},ns.length=is.length→(∀(j:Nat) (x:Str) (i:Nat),ns[j]? =I x→is[j]? =I i→P x i)→ns.Nodup→is.Nodup:=by
 intro ns
 induction ns with
 |nil=>
  intro is ar _ _
  induction is using bY with
  |nil=>exact .nil
  |cons=>exact nomatch ar
 |cons x ns aD=>
  intro is ar h aA
  induction is using bY with
  |nil=>exact nomatch ar
  |cons i is=>
  obtain⟨aa,ab⟩:=jg.mp aA;refine jg.mpr ⟨fun hm=>?_,aD (Nat.succ.inj ar) (fun j x i a b=>h (j+1) x i a b) ab⟩;obtain⟨j,a'⟩:=aae.mp hm;have tf:j<ns.length:=by have:=(d7.mp a').1;exact rT this (Nat.succ.inj ar).symm
  have:=inj _ _ _ (h 0 x i rfl rfl) (h (j+1) _ i (gp tf) a');exact aa (this▸uu tf)
theorem cM.snoc{x:X}{u:Value}(h:b8 W x u):∀{xs:List X} {us:List Value},cM W xs us→cM W (xs++[x]) (us++[u])
 |[],[],_=>⟨h,trivial⟩
 |_::_,_::_,r=>⟨r.1,cM.snoc h r.2⟩
 |[],_::_,r=>r.elim
 |_::_,[],r=>r.elim
theorem cM.reverse:∀{xs:List X} {us:List Value},cM W xs us→cM W xs.reverse us.reverse
 |[],[],_=>trivial
 |_::_,_::_,r=>by erw[mE,mE];exact cM.snoc r.1 (cM.reverse r.2)
 |[],_::_,r=>r.elim
 |_::_,[],r=>r.elim
theorem R3(aQ:cH w ae cb cm)(bk:eC w ae C n){ts es:List Expr}{kt Av:Nat}{cL ck p:Pos}{fX:dI}{bg:az}(a5:jY cx ts=I fX)(he:n2 cx ts es=I bg)(vQ:sk es=true):jA w ae C n cx (.Assign [.Tuple ts kt cL] (.Tuple es Av ck) p) (.jU fX bg):=by
 intro A ax G W fm st s r st' hf R aC;obtain⟨xs,s1,ev,aa⟩:=b2 (show aY (dq C bg st) (fun xs st=>(gb C fX xs st).map fun st=>(Mine.R.next,st))=I (r,st')from aC);obtain⟨s2,aB,ab⟩:=omap aa;clear aC aa;cases ab;have hlen:=GL a5 aB;have val:∀{Q:Value→Shared→Prop},(∀T us W' s',W.le W'→Rel w ae G W' fm s1 s'→cM W' xs us→s'.os=s.os→s'.heap.get? T=I {cls:=.type "tuple",data:=.seq (mF us)}→Q (.ref T) s')→xs.length≤100000→wpAny (model a4 w) A (eval (.Tuple es Av ck) fm.env) Q bL s:=fun h ar=>by refine wpAny_Tuple (qV (RL aQ bk he ax hf R ev) fun us s' W1 aM aZ a8 a0=>?_);refine⟨by erw[a8.length,sizeLine_eq];exact cz ‹_› rfl,?_⟩;exact h _ us W1 _ aM (aZ.keep (h':=s'.heap.push {cls:=.type "tuple",data:=.seq us.toArray}) (k:=s'.toks) fun b o e=>Heap.get?_push_of_some _ e) a8 a0 (Heap.get?_push_size _ rfl)
 have ar:xs.length≤100000:=by
  have aa:=vQ;unfold sk at aa;have ab:=of_decide_eq_true (cC.mp aa).1;have aq:=RK he
  lia
 ·rcases RV (ts:=ts) (kt:=kt) (kv:=Av) (pt:=cL) (pv:=ck) (env:=fm.env) vQ with hw|⟨line,hw,aa,ab⟩
  ·refine GU ?_ rfl hw rfl;refine val (fun T us W1 s' aM aZ a8 a0 d'=>?_) ar;refine bC (fun a b=>?_) (GH (env:=fm.env) a5);refine wpAny_assign_Tuple (items:=us.toArray) ax.h ⟨_,d',rfl,_,rfl⟩ (by erw[a,hlen,jh,a8.length]) b fun h' ai=>?_;have cy:=aZ.keep (h':=h') (k:=s'.toks) fun b o e=>ai b o (ki (Heap.lt_size e)) e;refine sE (GK a5 (fun t ag pt h=>GN aQ bk h) ax hf cy a8 aB) fun ag mf cN bt ek cK=>?_;exact⟨cN,aM.trans bt,ek,trivial,cK.trans a0⟩
  ·refine Assign_Tuple_swapped ?_ rfl hw;refine val (fun T us W1 s' aM aZ a8 a0 d'=>?_) ar;have e:(ts.filterMap (j2 fm.env line)).length=us.toArray.size:=by erw[aa,hlen,jh,a8.length]
   erw[e];refine unpackItems_tuple ax.h ⟨_,d',rfl,_,rfl⟩ fun h' ai=>?_;have cy:=aZ.keep (h':=h') (k:=s'.toks) fun b o e=>ai b o (ki (Heap.lt_size e)) e;obtain⟨is,cY,dt,gw⟩:=R1 a5 aa (RW aa) aB;have nd:=R2 (P:=fun x i=>cx.ak x=I i) (fun x y i aa ab=>hf.inj _ _ i (q1 aa).1 (q1 ab).1) dt cY ab;have GV:is.length=xs.length:=by erw[←dt,aa,hlen]
   refine wpAny_mono (RQ (ns:=(ts.filterMap (j2 fm.env line)).reverse) (is:=is.reverse) (us:=us.toArray.toList.reverse) hf (fun j x i a' aw=>?_) (by simp[dt]) cy (by simpa using a8.reverse) (by simp[aa,hlen])) (fun ag mf q=>?_) fun ag ag x=>x
   ·have tf:j<is.length:=by have:=(d7.mp aw).1;simpa using this
    rw[LV tf]at aw;rw[LV (by erw[dt];exact tf),dt]at a';exact cY _ x i a' aw
   ·refine bC (fun ek gd=>?_) (q);rw[RP nd GV,gw]at ek;exact⟨W1,aM,ek,trivial,gd.trans a0⟩
end
end
end Mine
end
section
open PySem PySem.W PySem.Calls PyProof.Rows PySem.SeqAt
namespace Mine
noncomputable section
section
variable{cx:bV}{A:Around}{G dJ:Addr→Obj→Prop}{W W' W1:a3}{fm fm':bS}{st st' d6:St}{s:Shared}
theorem Aw{α:Type}{M:Model}{m:Sem α}{Q:α→Shared→Prop}{E:Value→Shared→Prop}(h:wpAny M A m Q bL s):wpAny M A m Q E s:=wpAny_mono h (fun ag ag q=>q) fun ag ag f=>f.elim
theorem lr.step{W':a3}{s1 s':Shared}{r:R}{dB:Flow}(h:W.le W')(o:s1.os=s.os)(p:lr w ae G W' fm s1 st' r dB s'):lr w ae G W fm s st' r dB s':=by obtain⟨cN,a,b,c,d⟩:=p;exact⟨cN,h.trans a,b,c,d.trans o⟩
theorem Ax{A:Around}{m:Sem Flow}{r:R}{W1:a3}{s₁:Shared}(h:wpAny (model a4 w) A m (lr w ae G W1 fm s₁ st' r) bL s₁)(l:W.le W1)(o:s₁.os=s.os):wpAny (model a4 w) A m (lr w ae G W fm s st' r) bL s₁:=wpAny_mono h (fun ag ag q=>q.step l o) fun ag ag x=>x
theorem Ay{A:Around}{m:Sem Flow}{r:R}{Q:Flow→Shared→Prop}{E:Value→Shared→Prop}(h:wpAny (model a4 w) A m (lr w ae G W fm s st' r) bL s)(k:∀dB s₁ W1,W.le W1→Rel w ae G W1 fm st' s₁→vX W1 r dB→s₁.os=s.os→Q dB s₁):wpAny (model a4 w) A m Q E s:=wpAny_mono h (fun u s₁ q=>match q with|⟨W1,a,b,c,d⟩=>k u s₁ W1 a b c d) fun ag ag x=>x.elim
theorem GW{r:R}{dB:Flow}(h:jo r=true)(f:vX W r dB):∃v,dB= .ret v:=by
 induction r using R.casesOn with
 |ret x=>induction dB using Flow.casesOn<;>first|exact⟨_,rfl⟩|exact f.elim
 |_=>cases h
theorem GX{r:R}{dB:Flow}(h:jo r=false)(f:vX W r dB):dB= .next∨dB= .cont:=by
 induction r using R.casesOn with
 |ret x=>cases h
 |_=>induction dB using Flow.casesOn<;>first|exact .inl rfl|exact .inr rfl|exact f.elim
theorem R4(aQ:cH w ae cb cm)(bk:eC w ae C n){x:Str}{e:Expr}{p cL:Pos}{i:Nat}{aH:ao}(aC:cx.ak x=I i)(ce:aW cx e=I aH):jA w ae C n cx (.AugAssign (.Name x cL) .Add e p) (.aug i aH):=by intro A ax G W fm st s r st' hf R aN;obtain⟨cY,h0,aa⟩:=aU (show((st.loc[i]?).bind fun x=>x.bind fJ).bind (fun a=>aY (aj C aH st) fun y st=>(fJ y).map fun b=>(Mine.R.next,st.f' i (.v (.int (a+b)))))=I (r,st')from aN);obtain⟨y,s1,ev,ab⟩:=b2 aa;obtain⟨dt,m2,aq⟩:=omap ab;obtain⟨z,ar,ba⟩:=aU h0;obtain⟨jR,rfl,b0⟩:=aU ba;clear aN h0 aa ab ba;cases aq;obtain rfl:=l9 m2;obtain rfl:=l9 b0;refine wpAny_AugAssign_Name (Eo R hf (q1 aC).1 ar fun y dP=>?_);obtain⟨t,rfl⟩:=hQ dP;refine dm ((hc aQ bk e cx).1 ce ax hf R ev) fun u s₁ W1 aM aZ a8 a0=>?_;obtain⟨t',rfl⟩:=hQ a8;exact iadd_int (wpAny_mono (zU (v:=.v (.int (cY+dt))) aZ.toks hf aC (.int _ _)) (fun ag s' q=>⟨W1,aM,q.1,trivial,q.2.trans a0⟩) fun ag ag x=>x)
theorem R5(aQ:cH w ae cb cm)(bk:eC w ae C n){a i e:Expr}{p cL:Pos}{bx pi aH:ao}(ca:aW cx a=I bx)(ci:aW cx i=I pi)(ce:aW cx e=I aH):jA w ae C n cx (.AugAssign (.Subscript a i cL) .Add e p) (.pe bx pi aH):=by
 intro A ax G W fm st s r st' hf R aN;obtain⟨x,s1,bT,aa⟩:=b2 (show aY (aj C bx st) (fun x st=>aY (aj C pi st) fun j st=>((st.item x j).bind fJ).bind fun a=>aY (aj C aH st) fun y st=>(fJ y).bind fun b=>(st.setItem x j (.v (.int (a+b)))).map fun st=>(Mine.R.next,st))=I (r,st')from aN);obtain⟨j,s2,pz,ab⟩:=b2 aa;obtain⟨cY,h0,aq⟩:=aU ab;obtain⟨y,s3,ev,ba⟩:=b2 aq;obtain⟨dt,m2,b0⟩:=aU ba;obtain⟨s4,aL,d2⟩:=omap b0;obtain⟨v,aJ,fk⟩:=aU h0;clear aN h0 aa ab aq ba b0;cases d2;obtain rfl:=l9 m2;obtain rfl:=l9 fk;refine wpAny_AugAssign_Subscript_any ?_ (by induction i using Expr.casesOn<;>first|(intro _ _ _;rfl)|exact c1 ci)
 refine dm ((hc aQ bk a cx).1 ca ax hf R bT) fun u s₁ W1 aM aZ a8 a0=>dm ((hc aQ bk i cx).1 ci ax hf aZ pz) fun vZ s₂ cN bt cy b3 cK=>?_;obtain⟨T,id,_,_,aq⟩:=E9 (A:=A) aQ cy (a8.mono bt) b3 aJ;refine dm aq fun old gO h9 fa ek mZ gd=>?_;obtain⟨t,rfl⟩:=hQ mZ;refine dm ((hc aQ bk e cx).1 ce ax hf ek ev) fun aaO pM F6 z6 jx z7 pE=>?_;obtain⟨t',rfl⟩:=hQ z7;have pO:=fa.trans z6;exact iadd_int (sE (Fb aQ jx.toks (a8.mono (bt.trans pO)) (b3.mono pO) (x:=.v (.int (cY+dt))) (.int _ _) aL) fun ag sX R6 eb z8 R7=>⟨R6,((aM.trans bt).trans pO).trans eb,z8,trivial,(R7.trans pE).trans (gd.trans (cK.trans a0))⟩)
theorem R8(aQ:cH w ae cb cm)(bk:eC w ae C n){t:Expr}{a b:List Stmt}{p:Pos}{pt:ao}{bx bN:bD}(mI:aW cx t=I pt)(aB:ow w ae C n cx a bx)(bf:ow w ae C n cx b bN):jA w ae C n cx (.If t a b p) (.ite pt bx bN):=by
 intro A ax G W fm st s r st' hf R aN;obtain⟨x,s1,sG,aa⟩:=b2 (show aY (aj C pt st) (fun x st=>(k3 x).bind fun t=>if t then bI C bx st else bI C bN st)=I (r,st')from aN);obtain⟨c,ah,ab⟩:=aU aa;obtain rfl:=mW ah;refine wpAny_If (l6 ((hc aQ bk t cx).2 mI ax hf R sG) fun s₁ W1 aM aZ a0=>?_)
 induction c using hL with
 |true=>exact Ax (aB _ ax hf aZ (sH ab)) aM a0
 |false=>exact Ax (bf _ ax hf aZ ab) aM a0
inductive Az(w:World)(ae:Heap)(C:Calls)(G:Addr→Obj→Prop)(W:a3)(fm:bS)(s:Shared)(pt:ao)(bN:bD)(r:R)(st':St)(k:Nat)(s':Shared):Prop where
 |mk (st1:St) (W1:a3) (h:lZ (fun st=>hO (aj C pt st)) (bI C bN) k st1=I (r,st')) (l:W.le W1) (R:Rel w ae G W1 fm st1 s') (o:s'.os=s.os):Az w ae C G W fm s pt bN r st' k s'
theorem R9{o:Option (X×St)}{b:Bool}(h:hO o=I (b,st')):o=I (.v (.bool b),st'):=by obtain⟨x,s1,e,aa⟩:=b2 h;obtain⟨b',bf,ab⟩:=omap aa;cases ab;erw[e,mW bf]
theorem R'(aQ:cH w ae cb cm)(bk:eC w ae C n){t:Expr}{b:List Stmt}{p:Pos}{pt:ao}{bN:bD}(mI:aW cx t=I pt)(bf:ow w ae C n cx b bN):jA w ae C n cx (.While t b [] p) (.sa pt bN):=by
 intro A ax G W fm st s r st' hf R aN;refine wpAny_While (codeAny_whileLoop (Az w ae C G W fm s pt bN r st') ?_ 100 ⟨st,W,aN,.rfl,R,rfl⟩);clear aN R;rintro k s' ⟨st1,W1,hw,aM,aZ,a0⟩
 induction k using fe with
 |zero=>cases hw
 |succ k=>
  obtain⟨c,s1,a5,aa⟩:=b2 (show aY (hO (aj C pt st1)) (fun b st=>if b then(aY (bI C bN st) fun r st=>if jo r then I (r,st)else lZ (fun st=>hO (aj C pt st)) (bI C bN) k st)else I (.next,st))=I (r,st')from hw);refine Aw (l6 ((hc aQ bk t cx).2 mI ax hf aZ (R9 a5)) fun s₁ cN bt cy cK=>?_)
  induction c using hL with
  |false=>cases aa;erw[if_neg (by decide)];exact wpAny_execs_nil ⟨cN,aM.trans bt,cy,trivial,cK.trans a0⟩
  |true=>
   obtain⟨b3,s2,cU,ab⟩:=b2 (sH aa);erw[if_pos rfl];refine Ay (bf _ ax hf cy cU) fun dB s₂ h9 fa ek hT gd=>?_;cases av:jo b3 with
   |true=>rw[av]at ab;cases ab;obtain⟨v,rfl⟩:=GW av hT;exact⟨h9,(aM.trans bt).trans fa,ek,hT,gd.trans (cK.trans a0)⟩
   |false=>
    rw[av]at ab;have:∃m,m<k+1∧Az w ae C G W fm s pt bN r st' m s₂:=⟨k,kk _,s2,h9,ab,(aM.trans bt).trans fa,ek,gd.trans (cK.trans a0)⟩
    rcases GX av hT with rfl|rfl<;>exact this
inductive AA(w:World)(ae:Heap)(C:Calls)(G:Addr→Obj→Prop)(W:a3)(fm:bS)(s:Shared)(aF:cJ)(bN:bD)(xs:List V)(ea:List Addr)(cR:Nat→Heap→Prop)(r:R)(st':St)(k:Nat)(s':Shared):Prop where
 |mk (i:Nat) (st1:St) (W':a3) (e:k=xs.length+1-i) (aw:i≤xs.length) (aN:forL aF (bI C bN) (xs.drop i) st1=I (r,st')) (l:W.le W') (R:Rel w ae G W' fm st1 s') (aL:cR i s'.heap) (off:∀b∈ea,Off G W' fm st1 b) (o:s'.os=s.os):AA w ae C G W fm s aF bN xs ea cR r st' k s'
theorem Sa{target:Expr}{body:List Stmt}{cc:Addr}{aF:cJ}{xs:List V}{bq ea wr:List Addr}{P d5:Nat→Value→Heap→Prop}{cR:Nat→Heap→Prop}{hB:St}{h0:Heap}{r:R}{bN:bD}{kz:Result→Shared→Prop}
  (T:lj w A G W1 fm hB h0 cc aF target xs bq ea wr P d5 cR) (hf:dw cx fm) (a5:jX cx target=I aF) (ax:d1 n A) (ib:ow w ae C n cx body bN)
  (R:Rel w ae G W fm st s) (hle:W1.le W) (aL:cR 0 s.heap) (off:∀b∈ea,Off G W fm st b) (aN:forL aF (bI C bN) xs st=I (r,st'))
  (el:∀dB s',lr w ae G W fm s st' r dB s'→kz (.ok dB) s'):codeAny (model a4 w) A (.forLoop target (.ref cc) body [] fm.env) kz s:=by
 refine codeAny_forLoop_any (AA w ae C G W fm s aF bN xs ea cR r st') ?_ (xs.length+1) ⟨0,st,W,rfl,fx _,aN,.rfl,R,aL,off,rfl⟩;clear aN R aL off;rintro k s' ⟨i,st1,W',rfl,aw,aN,kE,R,aL,off,aO⟩;refine bZ (fun dQ:i<xs.length=>?_) (fun dQ=>?_)
 ·have aC:=gp dQ;rw[CP dQ]at aN;obtain⟨st2,GY,aa⟩:=aU (show(hN aF xs[i] st1).bind (fun st=>aY (bI C bN st) fun r st=>if jo r then I (r,st)else forL aF (bI C bN) (xs.drop (i+1)) st)=I (r,st')from aN);obtain⟨b3,i6,cU,ab⟩:=b2 aa;clear aN aa;refine F1 T aC (FZ GY) R (hle.trans kE) aL off (fun v s₁ q=>q) fun v aa tk aZ q4 hit ai=>?_;refine Aw (wpAny_mono (zY ax.h (aZ.F0 off) hf a5 hit GY) (fun ag s2 q=>Ay (ib _ ax hf q.1 cU) fun dB s3 h9 fa ek hT gd=>?_) fun ag ag x=>x);obtain⟨jx,z5,vG,_⟩:=z0 T (fun ag ag g=>g) aZ (hle.trans kE) q4 (fun b h=>h) off (T.alive _ _ q4) fa ek;cases av:jo b3 with
  |true=>rw[av]at ab;cases ab;obtain⟨v,rfl⟩:=GW av hT;exact el _ _ ⟨h9,kE.trans fa,jx,hT,gd.trans (q.2.trans aO)⟩
  |false=>
   rw[av]at ab;have:∃m,m<xs.length+1-i∧AA w ae C G W fm s aF bN xs ea cR r st' m s3:=⟨xs.length+1-(i+1),Mw ‹_›,i+1,i6,h9,rfl,dQ,ab,kE.trans fa,jx,z5,vG,gd.trans (q.2.trans aO)⟩
   rcases GX av hT with rfl|rfl<;>exact this
 ·have e:i=xs.length:=by exact rU ‹_› (kW.mp ‹_›)
  subst e;rw[List.drop_length]at aN;cases aN;exact T.K.done s' _ _ aL fun h' tk ai=>wpAny_execs_nil (el _ _ ⟨W',kE,R.vD (k:=tk) (fun b bf=>off b (T.wr b bf)) ai,trivial,aO⟩)
theorem Sb(aQ:cH w ae cb cm)(bk:eC w ae C n){t it:Expr}{b:List Stmt}{p:Pos}{aF:cJ}{src:Src}{bN:bD}(a5:jX cx t=I aF)(lq:l0 cx it (aW cx it) (mQ cx it)=I src)(gP:mO aF src=true)(bf:ow w ae C n cx b bN):jA w ae C n cx (.For t it b [] p) (.mK aF src bN):=by intro A ax G W fm st s r st' hf R aN;obtain⟨⟨x,xs,s1⟩,es,aa⟩:=aU (show(fi C src st).bind (fun p=>(valOf p.1).bind fun ag=>forL aF (bI C bN) p.2.1 p.2.2)=I (r,st')from aN);obtain⟨v,aJ,ab⟩:=aU aa;obtain rfl:=l' aJ;refine wpAny_For (wpAny_mono (FY aQ ax hf R (hc aQ bk it cx).1 (fun f as p e a aB=>(hc aQ bk a cx).1) lq (FJ a5) gP es) (fun u s₁ q=>wpAny_mono q (fun vu s₂ q=>?_) fun ag ag x=>x) fun ag ag x=>x) (Gg lq fm.env);obtain⟨cc,W1,dJ,bq,ea,wr,P,d5,cR,rfl,aM,aZ,a0,T,L⟩:=q;cases L;exact Sa T hf a5 ax bf aZ .rfl T.hB T.off ab fun dB s' q=>q.step aM a0
theorem Sd(aQ:cH w ae cb cm)(bk:eC w ae C n){e:Expr}{p:Pos}{aH:ao}(h:pq cx e=I aH):jA w ae C n cx (.Return (I e) p) (.ret aH):=by intro A ax G W fm st s r st' hf R aN;obtain⟨x,s1,ev,aa⟩:=b2 (show aY (aj C aH st) (fun x st=>I (.ret x,st))=I (r,st')from aN);cases aa;exact wpAny_Return_some (dm (GP aQ bk h _ ax hf R ev) fun u s₁ W1 aM aZ a8 a0=>⟨W1,aM,aZ,a8,a0⟩)
theorem Se(aQ:cH w ae cb cm)(bk:eC w ae C n){e:Expr}{p:Pos}{aH:ao}(h:aW cx e=I aH)(ah:isCall e=true):jA w ae C n cx (.Expr e p) (.expr aH):=by intro A ax G W fm st s r st' hf R aN;obtain⟨x,s1,ev,aa⟩:=b2 (show aY (aj C aH st) (fun ag st=>I (.next,st))=I (r,st')from aN);cases aa;exact wpAny_Expr_any (dm ((hc aQ bk e cx).1 h ax hf R ev) fun u s₁ W1 aM aZ a8 a0=>⟨W1,aM,aZ,trivial,a0⟩) (by unfold interactive;erw[hf.kind];rfl) (by induction e using Expr.casesOn<;>first|rfl|cases ah)
end
end
end Mine
end
section
open PySem PySem.W PySem.Calls PyProof.Rows PySem.SeqAt
namespace Mine
noncomputable section
section
variable{cx:bV}
theorem tg{x:Stmt}{c6:c8}(h:J=I c6):jA w ae C n cx x c6:=c1 h
theorem Sf(aQ:cH w ae cb cm)(bk:eC w ae C n){t e:Expr}{p:Pos}{c6:c8}(h:yH cx t e=I c6):jA w ae C n cx (.Assign [t] e p) c6:=by
 have one:(k7 t=J∨k7 e=J)→((iz cx t).bind fun t'=>(l1 cx t e).map fun e=>c8.assign t' e)=I c6→jA w ae C n cx (.Assign [t] e p) c6:=fun aA h=>by obtain⟨pt,aa,h⟩:=aU h;obtain⟨aH,ab,rfl⟩:=omap h;exact R0 aQ bk aa ab aA
 unfold yH at h;cases aa:k7 t with
 |none=>replace h:=aa▸h;exact one (.inl aa) h
 |some ts=>
  cases ab:k7 e with
  |none=>replace h:=ab▸(aa▸h);exact one (.inr ab) h
  |some es=>replace h:=ab▸(aa▸h);obtain⟨dH,cL,rfl⟩:=GO aa;obtain⟨ft,ck,rfl⟩:=GO ab;refine bC (fun aL h=>?_) (c0 (show(if sk es then(jY cx ts).bind fun yI=>(n2 cx ts es).map fun es=>c8.jU yI es else J)=I c6 from h));obtain⟨fX,aq,h⟩:=aU h;obtain⟨bg,ba,rfl⟩:=omap h;exact R3 aQ bk aq ba aL
theorem Sg(aQ:cH w ae cb cm)(bk:eC w ae C n){t e:Expr}{o:Operator}{p:Pos}{c6:c8}(h:D1 cx o e t=I c6):jA w ae C n cx (.AugAssign t o e p) c6:=by
 induction t using Expr.casesOn with
 |Name x q=>obtain⟨rfl,h⟩:=c0 (show(if o= .Add then(cx.ak x).bind fun i=>(aW cx e).map fun e=>c8.aug i e else J)=I c6 from h);obtain⟨i,aa,h⟩:=aU h;obtain⟨aH,ab,rfl⟩:=omap h;exact R4 aQ bk aa ab
 |Subscript a i q=>obtain⟨rfl,h⟩:=c0 (show(if o= .Add then(aW cx a).bind fun a=>(aW cx i).bind fun i=>(aW cx e).map fun e=>c8.pe a i e else J)=I c6 from h);obtain⟨bx,aa,h⟩:=aU h;obtain⟨pi,ab,h⟩:=aU h;obtain⟨aH,aq,rfl⟩:=omap h;exact R5 aQ bk aa ab aq
 |_=>exact tg h
theorem GZ{α:Type}{l:List α}(h:¬(!l.isEmpty)=true):l=[]:=by simpa using h
theorem G1{t a b n:Nat}(h:1+t+a+b<n+1):b<n:=o9 (a:=t+a) (rV 1 t a▸h)
theorem Sh(aQ:cH w ae cb cm)(bk:eC w ae C n){m:Nat}(aG:∀xs:List Stmt,sizeOf xs<m→∀c6,kx cx xs=I c6→ow w ae C n cx xs c6)(x:Stmt)(hm:sizeOf x<m+1)(c6:c8)(h:n3 cx x=I c6):jA w ae C n cx x c6:=by
 induction x using Stmt.casesOn with
 |Assign ts e p=>
  induction ts using bY with
  |nil=>exact tg h
  |cons t ts=>
  induction ts using bY with
  |nil=>exact Sf aQ bk h
  |cons=>exact tg h
 |AugAssign t o e p=>exact Sg aQ bk h
 |If t a b p=>simp only[Stmt.If.sizeOf_spec]at hm;obtain⟨pt,aa,h⟩:=aU (show(aW cx t).bind _=I c6 from h);obtain⟨bx,ab,h⟩:=aU h;obtain⟨bN,aq,rfl⟩:=omap h;exact R8 aQ bk aa (aG a (o9 (jQ (jQ ‹_›))) _ ab) (aG b (G1 (jQ ‹_›)) _ aq)
 |For t it b o p=>simp only[Stmt.For.sizeOf_spec]at hm;refine bC (fun aO h=>?_) (hu (show(if(!o.isEmpty)=true then J else(jX cx t).bind fun aF=>(l0 cx it (aW cx it) (mQ cx it)).bind fun s=>if(!mO aF s)=true then J else(kx cx b).map fun b=>c8.mK aF s b)=I c6 from h));obtain rfl:=GZ aO;obtain⟨aF,aa,h⟩:=aU h;obtain⟨src,ab,h⟩:=aU h;refine bC (fun ai h=>?_) (hu h);obtain⟨bN,aq,rfl⟩:=omap h;exact Sb aQ bk aa ab (by simpa using ai) (aG b (G1 (jQ (jQ ‹_›))) _ aq)
 |While t b o p=>simp only[Stmt.While.sizeOf_spec]at hm;refine bC (fun aO h=>?_) (hu (show(if(!o.isEmpty)=true then J else(aW cx t).bind fun t=>(kx cx b).map fun b=>c8.sa t b)=I c6 from h));obtain rfl:=GZ aO;obtain⟨pt,aa,h⟩:=aU h;obtain⟨bN,aq,rfl⟩:=omap h;exact R' aQ bk aa (aG b (o9 (jQ (jQ ‹_›))) _ aq)
 |Return r p=>
  induction r using gJ with
  |none=>exact tg h
  |some e=>obtain⟨aH,aa,rfl⟩:=omap (show(pq cx e).map c8.ret=I c6 from h);exact Sd aQ bk aa
 |Expr e p=>refine bC (fun ah h=>?_) (c0 (show(if isCall e then(aW cx e).map c8.expr else J)=I c6 from h));obtain⟨aH,aa,rfl⟩:=omap h;exact Se aQ bk aa ah
 |Continue p=>cases h;intro A ax G W fm st s r st' hf R aN;cases aN;exact wpAny_Continue ⟨_,.rfl,R,trivial,rfl⟩
 |Pass p=>cases h;intro A ax G W fm st s r st' hf R aN;cases aN;exact wpAny_Pass ⟨_,.rfl,R,trivial,rfl⟩
 |Raise a b p=>cases h;intro A ax G W fm st s r st' hf R aN;cases aN
 |_=>exact tg h
theorem Si{r a8:R}{st st':St}{k:St→Option (R×St)}(h:n0 a8 st k=I (r,st')):(a8= .next∧k st=I (r,st'))∨(a8≠ .next∧r=a8∧st'=st):=by
 induction a8 using R.casesOn with
 |next=>exact .inl ⟨rfl,h⟩
 |cont=>cases h;exact .inr ⟨nofun,rfl,rfl⟩
 |ret x=>cases h;exact .inr ⟨nofun,rfl,rfl⟩
theorem Sj(aQ:cH w ae cb cm)(bk:eC w ae C n){xs:List Stmt}{c6:bD}(h:kx cx xs=I c6):ow w ae C n cx xs c6:=by
 have:∀m,∀xs:List Stmt,sizeOf xs<m→∀c6,kx cx xs=I c6→ow w ae C n cx xs c6:=by
  intro m
  induction m with
  |zero=>intro e h;exact absurd h (o5 _)
  |succ m aG=>
   intro xs hm c6 h
   induction xs using bY with
   |nil=>cases h;intro A ax G W fm st s r st' hf R aN;cases aN;exact wpAny_execs_nil ⟨_,.rfl,R,trivial,rfl⟩
   |cons x xs=>
    simp only[List.cons.sizeOf_spec]at hm;obtain⟨cL,aa,h⟩:=aU (show(n3 cx x).bind _=I c6 from h);obtain⟨ck,ab,rfl⟩:=omap h;intro A ax G W fm st s r st' hf R aN;obtain⟨a8,s1,ay,aq⟩:=b2 (show aY (iU C cL st) (fun r st=>n0 r st fun st=>bI C ck st)=I (r,st')from aN);refine wpAny_execs_cons (Ay (Sh aQ bk aG x (by lia) cL aa _ ax hf R ay) fun dB s' W1 aM aZ hT a0=>?_)
    rcases Si aq with⟨rfl,ba⟩|⟨i0,rfl,rfl⟩
    ·cases dB with
     |next=>exact Ax (aG xs (o9 ‹_›) ck ab _ ax hf aZ ba) aM a0
     |_=>exact hT.elim
    ·cases dB with
     |next=>
      cases r with
      |next=>exact absurd rfl i0
      |_=>exact hT.elim
     |_=>exact⟨W1,aM,aZ,hT,a0⟩
 exact this _ xs (kk _) c6 h
end
end
end Mine
end
section
open PySem PySem.W PySem.Calls PyProof.Rows PySem.SeqAt
namespace Mine
noncomputable section
theorem dd.hU{W:a3}{P:List (Addr×Addr)}{v:V}{u:Value}(r:dd W v u):dd {W with p:=P} v u:=by
 induction r with
 |bB=>exact .bB
 |bool b=>exact .bool b
 |int i t=>exact .int i t
 |str n t=>exact .str n t
 |tup f s l _ aG=>exact .tup f s l aG
 |lst f s l _ aG=>exact .lst f s l aG
 |obj f fd n a5 ex g1 _ aG=>exact .obj f fd n a5 ex g1 aG
theorem b5.hU{W:a3}{P:List (Addr×Addr)}{xs:List V}{us:List Value}(r:b5 W xs us):b5 {W with p:=P} xs us:=⟨r.1,fun i x v a b=>(r.2 i x v a b).hU⟩
theorem b8.hU{W:a3}{P:List (Addr×Addr)}{x:X}{u:Value}{k:Nat}(dM:P<+:W.p)(ai:k≤P.length)(ae:iW k x)(r:b8 W x u):b8 {W with p:=P} x u:=by
 induction x using X.casesOn with
 |v a=>exact dd.hU r
 |cell i=>
  obtain⟨q,aE,rfl⟩:=r;have aw:=ey ae ai;obtain⟨gu,h'⟩:∃gu,P[i]? =I gu:=⟨P[i],gp aw⟩
  have:=l4 dM h';rw[aE]at this;cases this;exact⟨q,h',rfl⟩
theorem cM.hU{W:a3}{P:List (Addr×Addr)}{k:Nat}(dM:P<+:W.p)(ai:k≤P.length):∀{xs:List X} {us:List Value},(∀x∈xs,iW k x)→cM W xs us→cM {W with p:=P} xs us
 |[],[],_,_=>trivial
 |x::xs,u::us,ae,r=>⟨r.1.hU dM ai (ae x (.head _)),cM.hU dM ai (fun y aV=>ae y (.tail _ aV)) r.2⟩
 |[],_::_,_,r=>r.elim
 |_::_,[],_,r=>r.elim
theorem e'.hU{W:a3}{P:List (Addr×Addr)}{h:Heap}{k:Nat}{q:Addr×Addr}{c:Cell}(dM:P<+:W.p)(ai:k≤P.length)(x:e' w W h k q c):e' w {W with p:=P} h k q c:=by
 induction c using Cell.casesOn with
 |gone=>trivial
 |lst xs=>obtain⟨e,vs,p,r⟩:=x;exact⟨e,vs,p,r.hU⟩
 |cw kvs=>obtain⟨e,a6,p,m,r⟩:=x;exact⟨e,a6,p,m,r.hU⟩
 |e9 kvs=>obtain⟨e,a6,p,m,r,b⟩:=x;refine⟨e,a6,p,m,r.hU dM ai fun x aC=>?_,b⟩;obtain⟨y,aV,rfl⟩:=f9.mp aC;exact b y aV
 |inst c fs=>obtain⟨e,m,p,ex,g⟩:=x;exact⟨e,m,p,ex,fun n y aA=>⟨(g n y aA).1,by obtain⟨v,a,b⟩:=(g n y aA).2;exact⟨v,a,b.hU dM ai (g n y aA).1⟩⟩⟩
section
variable{G:Addr→Obj→Prop}{W eD:a3}{fm fm':bS}{st et:St}{s h6:Shared}
theorem AB{p r:List (Addr×Addr)}{l:List Cell}{k i:Nat}{c:Cell}{q:Addr×Addr}(hp:p<+:r)(h:gD p (l.take k) i c q):i<k∧gD r l i c q:=by refine eA fun cF=>?_;obtain⟨aa,ab,aq⟩:=h;refine cF ?_;rw[CO]at aa;obtain⟨aw,aa⟩:=c0 aa;exact⟨aw,aa,ab,l4 hp aq⟩
theorem Rel.cut(R:Rel w ae G W fm st s)(eG:W.le eD)(gf:Rel w ae (i3 G fm s.heap) eD fm' et h6)(ai:st.heap.length≤et.heap.length)(bf:et.base=st.heap.length)(ib:∀i,fm'.bd i=hx fm st.base st.heap.length i):
  Rel w ae G {eD with p:=W.p} fm {st with heap:=et.heap.take st.heap.length,tag:=et.tag} h6:=by
 have hlen:=List.length_take_of_le ai;refine R.leave (H:=et.heap.take st.heap.length) (P:=W.p) eG gf (R.len.trans hlen.symm) (fun l=>(AB eG.p l).2) (ir _) (fun{i c q} l ah=>?_) (bR R.cP (eQ hlen.symm));rw[bf,yO ((AB eG.p l).1),ib]at ah;erw[hlen];exact e'.hU eG.p (bR (R.Fe i) (eQ R.len.symm)) ah
theorem Rel.v3(R:Rel w ae G W fm st s)(eG:W.le eD)(gf:Rel w ae (i3 G fm s.heap) eD fm' et h6){i:Nat}{c:Cell}{q:Addr×Addr}(aw:st.heap.length≤i)(ah:et.heap[i]? =I c)(ar:sr c=true)(aE:eD.p[i]? =I q):
  Off G {eD with p:=W.p} fm {st with heap:=et.heap.take st.heap.length,tag:=et.tag} q.2:=by
 have L:gD eD.p et.heap i c q:=⟨ah,ar,aE⟩
 have own:fT eD fm' et q.2:=.hp i c q L rfl;refine⟨?_,fun o f=>gf.fU _ own o f,fun o g=>gf.eB _ own o (.inl g)⟩;rintro(h|⟨j,d,r,l,e⟩)
 ·exact(R.owned h).elim fun o g=>gf.eB _ own o (.inr g)
 ·obtain⟨a',l⟩:=AB eG.p l;exact kW.mpr aw (gf.apart L l e.symm▸a')
theorem Rel.Sk{loc:List (Option X)}(R:Rel w ae G W fm st s)(lo:ky G W fm loc s.heap):Rel w ae G W fm {st with loc:=loc} s:={R with lo:=lo}
end
theorem Sl{ej:Str→Option NameKind}{x:Str}:∀{binds:List (Str×Value)} {m:Str→Option Value},x ∉ binds.map (·.1)→bindL ej binds m x=m x:=by
 intro aT
 induction aT with
 |nil=>intro _ _;exact rfl
 |cons dA r aD=>
  obtain⟨y,v⟩:=dA;intro m h;rw[g0,ec,not_or]at h;erw[aD h.2]
  split
  ·simp[h.1]
  ·rfl
theorem Sm{ej:Str→Option NameKind}{x:Str}{v:Value}(ai:ej x=I .local):∀{binds:List (Str×Value)} {m:Str→Option Value},(binds.map (·.1)).Nodup→(x,v)∈binds→bindL ej binds m x=I v:=by
 intro aT
 induction aT with
 |nil=>intro _ _ _;first|contradiction|(intros;contradiction)|(simp at*;done)
 |cons dA r aD=>
  obtain⟨y,u⟩:=dA;intro m h hm;rw[g0,jg]at h;show bindL ej r _ x=_
  rcases ec.mp hm with e|hm
  ·cases e;erw[Sl h.1,if_pos ai];simp
  ·exact aD h.2 hm
theorem Sn{ej:Str→Option NameKind}{x:Str}:∀{binds:List (Str×Value)} {m:Str→Option Value},x ∉ binds.map (·.1)→bindC ej binds m x=m x:=by
 intro aT
 induction aT with
 |nil=>intro _ _;exact rfl
 |cons dA r aD=>
  obtain⟨y,v⟩:=dA;intro m h;rw[g0,ec,not_or]at h;erw[aD h.2]
  split
  ·rfl
  ·simp[h.1]
theorem So{ej:Str→Option NameKind}{x:Str}{v:Value}(ai:ej x≠I .local):∀{binds:List (Str×Value)} {m:Str→Option Value},(binds.map (·.1)).Nodup→(x,v)∈binds→bindC ej binds m x=I v:=by
 intro aT
 induction aT with
 |nil=>intro _ _ _;first|contradiction|(intros;contradiction)|(simp at*;done)
 |cons dA r aD=>
  obtain⟨y,u⟩:=dA;intro m h hm;rw[g0,jg]at h;show bindC ej r _ x=_
  rcases ec.mp hm with e|hm
  ·cases e;erw[Sn h.1,if_neg ai];simp
  ·exact aD h.2 hm
theorem G2{x:Str}:∀{names:List (Str×NameKind)} {n:Nat} {acc:List (Str×Addr)},((x,NameKind.cell)∈names∨∃c,acc.lookup x=I c)→∃c,(cellsFrom n names acc).lookup x=I c:=by
 intro aT
 induction aT with
 |nil=>intro _ _ h;exact h.elim (fun h=>nomatch h) id
 |cons dA r aD=>
  obtain⟨y,k⟩:=dA;intro n acc h;unfold cellsFrom
  split
  ·refine aD ?_;refine bZ (fun e:x=y=>?_) (fun e=>?_)
   ·subst e;exact .inr ⟨n,by simp⟩
   ·rcases h with h|⟨c,h⟩
    ·rcases ec.mp h with e4|h
     ·cases e4;exact absurd rfl e
     ·exact .inl h
    ·exact .inr ⟨c,by erw[hs,beq_eq_false_iff_ne.mpr e];exact h⟩
  ·rename_i ai;refine aD ?_
   rcases h with h|h
   ·rcases ec.mp h with e4|h
    ·cases e4;exact absurd rfl ai
    ·exact .inl h
   ·exact .inr h
end
end Mine
end
section
open PySem PySem.W PySem.Calls PyProof.Rows PySem.SeqAt
namespace Mine
noncomputable section
structure AD(fd:FuncData)(names:List Str):Prop where
 po:fd.params.posonlyargs=[]
 kG:fd.params.args.map (·.arg)=names
 sS:fd.params.vararg=J
 G3:fd.params.kwonlyargs=[]
 kw:fd.params.kwarg=J
def G4(h:Heap)(fd:FuncData)(ds:List Value):Prop:=(∃T o n,fd.defaults= .ref T∧h.get? T=I o∧o.data= .seq ds.toArray n)∨(fd.defaults= .none∧ds=[])
theorem AE{names:List Str}:∀{vs:List Value} {i:Nat} {x:Str},names.Nodup→names[i]? =I x→(names.zip vs).lookup x=vs[i]? :=by
 induction names with
 |nil=>intro vs i x _ h;exact c1 h
 |cons y r aG=>
  intro vs i x aA h;refine bC (fun aa ab=>?_) (jg.mp aA)
  rcases vs with _|⟨v,vs⟩
  ·rfl
  ·erw[List.zip_cons_cons,hs]
   induction i using fe with
   |zero=>cases Option.some.inj h;erw[beq_self_eq_true];rfl
   |succ i=>erw[show(x==y)=false from beq_eq_false_iff_ne.mpr fun e=>aa (e▸fI (show r[i]? =I x from h))];exact aG (vs:=vs) ab (show r[i]? =I x from h)
noncomputable def q6(r:List (Str×Value))(p:Str×Value):List (Str×Value):=if(r.lookup p.1).isNone=true then r++[(p.1,p.2)]else r
theorem Sp{a b:List (Str×Value)}{x:Str}:(a++b).lookup x=(a.lookup x).or (b.lookup x):=by
 induction a with
 |nil=>rfl
 |cons p a aG=>
  obtain⟨y,v⟩:=p;erw[xP,hs,hs];generalize (x==y)=b
  induction b using hL with
  |true=>rfl
  |false=>exact aG
theorem Sq{L:List (Str×Value)}{x n:Str}{d:Value}:(([(n,d)]:List (Str×Value)).lookup x).or (L.lookup x)=((n,d)::L).lookup x:=by
 erw[hs,hs];generalize (x==n)=b
 induction b using hL<;>rfl
theorem Sr{x:Str}{L:List (Str×Value)}:∀{r:List (Str×Value)},(L.foldl q6 r).lookup x=(r.lookup x).or (L.lookup x):=by
 induction L with
 |nil=>intro r;exact(Option.or_none).symm
 |cons p L aG=>
  intro r;obtain⟨n,d⟩:=p;refine aG.trans ?_;unfold q6;refine bZ (fun h:(r.lookup n).isNone=true=>?_) (fun h=>?_)
  ·erw[if_pos h,Sp,Option.or_assoc,Sq]
  ·erw[if_neg h,hs];refine bZ (fun e:x=n=>?_) (fun e=>?_)
   ·cases e
    rcases aJ:r.lookup x with _|v
    ·replace h:=aJ▸h;exact absurd rfl h
    ·rfl
   ·erw[beq_eq_false_iff_ne.mpr e]
theorem Ss{f:Str→Option Value}{names:List Str}:∀{full:List Value},(∀(i:Nat) x,names[i]? =I x→f x=full[i]?)→full.length=names.length→names.filterMap (fun n=>(f n).map (n,·))=names.zip full:=by
 induction names with
 |nil=>intro full _ _;exact List.zip_nil_left.symm
 |cons x names aG=>
  intro full h ar
  rcases full with _|⟨v,full⟩
  ·cases ar
  ·erw[uA,h 0 x rfl];exact congrArg ((x,v):: ·) (aG (fun i x aC=>h (i+1) x aC) (Nat.succ.inj ar))
theorem Su{α β:Type}(g:β→α→β)(f:α→β→Sem (ForInStep β))(hf:∀a r,f a r=pure (.yield (g r a))):∀(l:List α) (b:β),forIn l b f=pure (l.foldl g b):=by
 intro aT
 induction aT with
 |nil=>intro b;exact rfl
 |cons a l aD=>intro b;rw[LQ,hf,pure_bind];exact aD _
theorem Sv{names:List Str}{vals:List Value}(aA:names.Nodup){k:Nat}(ai:k≤vals.length):((names.take k).filter fun n=>((names.zip vals).lookup n).isNone)=[]:=by erw[aaf];intro x aC;refine f7 (aae.mp aC) fun i aw=>?_;have ar:=ey (d7.mp aw).1 (aag ..);rw[List.getElem?_take_of_lt ar]at aw;erw[AE aA aw,gp (ey ar ai)];exact rR
theorem Sw{names:List Str}{vals ds:List Value}(aA:names.Nodup){k d:Nat}(ai:k≤vals.length)(hd:d=vals.length-k){i:Nat}{x:Str}(aC:names[i]? =I x):(((names.drop k).zip ds).foldl q6 (names.zip vals)).lookup x=(vals++ds.drop d)[i]? :=by
 erw[Sr,AE aA aC];refine eF (CR i vals.length) (fun aJ=>?_) (fun aJ=>?_)
 ·erw[mD aJ,gp aJ];rfl
 ·have e:=mG (bR ai aJ);have au:d+(i-vals.length)=i-k:=by subst hd;exact Mv ‹_› ‹_›
  erw[jd aJ,iR aJ,LJ,au];exact AE (aA.sublist (List.drop_sublist _ _)) (by erw[LJ,e];exact aC)
theorem G5{V N D:Nat}(aa:V≤N)(ab:N≤V+D)(aq:D≤N):D-(N-V)=V-(N-D)∧V+(D-(D-(N-V)))=N:=by obtain⟨a,rfl⟩:=xQ aa;obtain⟨b,rfl⟩:=xQ (aah ab);rw[o2 V a]at aq⊢;erw[lT,iu,Nat.add_sub_add_left,xR (aah aq),lT];exact⟨rfl,o2 _ _⟩
theorem Sx{fd:FuncData}{vals:List Value}{names:List Str}{ds:List Value}(P:AD fd names)(aA:names.Nodup)(aa:vals.length≤names.length)(ab:names.length≤vals.length+ds.length)(aq:ds.length≤names.length):
  ∃k,bindArgs fd ⟨vals,[]⟩=seqItems? fd.defaults>>=k∧∀o:Option (Array Value),(o.getD #[]).toList=ds→k o=pure (names.zip (vals++ds.drop (ds.length-(names.length-vals.length)))):=by
 obtain⟨fn,aaP,⟨cL,ck,gK,hM,qD,nV,iw⟩,f4,aaQ,aaR,aaS,aaT,aaU,aaV,aaW,aaX,aaY,aaZ,aa0⟩:=fd;obtain⟨rfl,kG,rfl,rfl,rfl⟩:=P;have kG:ck.map (·.arg)=names:=kG;refine⟨_,rfl,fun o aO=>?_⟩;have eI:ds.drop (ds.length-names.length)=ds:=by erw[CS aq,List.drop_zero]
 refine(if_neg ?_).trans ?_
 ·intro h;have h:=of_decide_eq_true (cC.mp h).1;have h:names.length<vals.length:=kG▸h;exact absurd h (kW.mpr aa)
 refine(if_neg ?_).trans ?_
 ·show¬(!((((ck.map (·.arg)).take ((ck.map (·.arg)).length-((o.getD #[]).toList.drop ((o.getD #[]).toList.length-(ck.map (·.arg)).length)).length)).filter fun n=>(((ck.map (·.arg)).zip vals).lookup n).isNone).isEmpty))=true;erw[kG,aO,eI,Sv aA (LA ab)];exact rR
 refine Eq.trans (b:=pure (((((ck.map (·.arg)).drop ((ck.map (·.arg)).length-((o.getD #[]).toList.drop ((o.getD #[]).toList.length-(ck.map (·.arg)).length)).length)).zip ((o.getD #[]).toList.drop ((o.getD #[]).toList.length-(ck.map (·.arg)).length))).foldl q6 ((ck.map (·.arg)).zip vals)))>>=fun r=>pure ((ck.map Arg.arg++[]).filterMap fun n=>(r.lookup n).map (n,·))) (congrArg (· >>=_) (Su q6 _ (fun a r=>?_) _ _)) ?_
 ·obtain⟨n,d⟩:=a;unfold q6
  dsimp only
  split<;>rfl
 ·erw[pure_bind,ei,kG,aO,eI];refine congrArg pure (Ss (fun i x aC=>Sw aA (LA ab) (G5 aa ab aq).1 aC) ?_);erw[b4,CT];exact(G5 aa ab aq).2
theorem Sy{s:Shared}{fd:FuncData}{vals:List Value}{names:List Str}{ds:List Value}(P:AD fd names)(D:G4 s.heap fd ds)(aA:names.Nodup)(aa:vals.length≤names.length)(ab:names.length≤vals.length+ds.length)(aq:ds.length≤names.length):
  BindsTo s fd ⟨vals,[]⟩ (names.zip (vals++ds.drop (ds.length-(names.length-vals.length)))):=by
 obtain⟨k,e,ai⟩:=Sx P aA aa ab aq
 rcases D with⟨T,o,n,ay,au,bo⟩|⟨ay,rfl⟩
 ·exact BindsTo.of_defaults ay au bo e (ai _ rfl)
 ·exact BindsTo.of_eq (e.trans (by erw[ay];exact ai J rfl))
end
end Mine
end
section
open PySem PySem.W PySem.Calls PyProof.Rows PySem.SeqAt
namespace Mine
noncomputable section
def v5(P:Params)(f:Nat):Option FuncData:=match(H.c7 P).lookup (ha f)with
 |some o=>(match o.data with
  | .func fd=>I fd
  |_=>J)
 |none=>J
noncomputable abbrev G6:=Arguments×FuncBody×Scope×Addr×List (Str×Addr)×Addr
noncomputable def Sz(fd:FuncData):G6:=(fd.params,fd.body,fd.scope,fd.globals,fd.closure,fd.builtins)
noncomputable def SA(x:Stmt):Option G6:=match x with
 | .FunctionDef _ a b _ _ _ sc _ _ _=>I (a,.stmts b,sc,mainGlobals,[],builtinsNs)
 |_=>J
theorem SD(P:Params):(iQ 55).map (fun f=>(v5 P f).map Sz)=(iQ 55).map (fun f=>SA (ps f)):=by kernel_rfl
noncomputable def AF(K:Frag)(v:V)(u:Value):Bool:=match v with
 | .int i=>(match u with
  | .int j _=>decide (j=i)
  |_=>false)
 | .bB=>(match u with
  | .none=>true
  |_=>false)
 | .tup xs=>xs.isEmpty&&(match u with
  | .ref a=>(match K.lookup a with
   |some o=>(match o with
    |⟨c,d,.seq af _,G7⟩=>decide (c= .type "tuple")&&d.isNone&&af.isEmpty&&G7.isEmpty
    |_=>false)
   |none=>false)
  |_=>false)
 |_=>false
theorem SE{K:Frag}{h:Heap}{W:a3}(X:K.In h)(eG:∀a o,h.get? a=I o→W.F a o){v:V}{u:Value}(e:AF K v u=true):dd W v u:=by
 induction v using V.casesOn with
 |int i=>induction u using Value.casesOn with
  |int j t=>cases of_decide_eq_true (p:=j=i) e;exact .int _ _
  |_=>cases e
 |bB=>induction u using Value.casesOn with
  |none=>exact .bB
  |_=>cases e
 |tup xs=>
  refine bC (fun ay au=>?_) (cC.mp e);cases km.mp ay
  induction u using Value.casesOn with
  |ref a=>
   dsimp only at au
   generalize aO:K.lookup a=o at au
   rcases o with _|⟨c,d,SF,G7⟩
   ·cases au
   ·induction SF using Data.casesOn with
    |seq af k=>refine bC (fun au bo=>?_) (cC.mp au);refine bC (fun au cg=>?_) (cC.mp au);refine bC (fun au dC=>?_) (cC.mp au);cases of_decide_eq_true au;cases ur.mp dC;cases aai.mp cg;cases aai.mp bo;exact .tup (vs:=[]) (eG _ _ (X _ _ aO)) ⟨k,rfl⟩ rfl fun i x v h=>c1 h
    |_=>cases au
  |_=>cases au
 |_=>cases e
noncomputable def allB(K:Frag):List V→List Value→Bool
 |[],[]=>true
 |v::vs,u::us=>AF K v u&&allB K vs us
 |_,_=>false
theorem SG{K:Frag}{h:Heap}{W:a3}(X:K.In h)(eG:∀a o,h.get? a=I o→W.F a o){vs:List V}:∀{us:List Value},allB K vs us=true→b5 W vs us:=by
 induction vs with
 |nil=>intro us e;rcases us with _|_;exact .nil;cases e
 |cons v vs aG=>
  intro us e
  rcases us with _|⟨u,us⟩
  ·cases e
  ·refine bC (fun a b=>?_) (cC.mp (show(AF K v u&&allB K vs us)=true from e));exact .cons (SE X eG a) (aG b)
def v7(K:Frag)(vs:List V)(u:Value):Bool:=match u with
 | .none=>vs.isEmpty
 | .ref T=>(match K.lookup T with
  |some o=>(match o.data with
   | .seq af _=>allB K vs af.toList
   |_=>false)
  |none=>false)
 |_=>false
theorem SH{K:Frag}{h:Heap}{W:a3}{fd:FuncData}{h':Heap}(X:K.In h)(eG:∀a o,h.get? a=I o→W.F a o)(ai:∀a o,h.get? a=I o→h'.get? a=I o){vs:List V}(e:v7 K vs fd.defaults=true):∃ds,G4 h' fd ds∧b5 W vs ds:=by
 generalize he:fd.defaults=u at e
 induction u using Value.casesOn with
 |none=>cases km.mp e;exact⟨[],.inr ⟨he,rfl⟩,.nil⟩
 |ref T=>
  unfold v7 at e
  dsimp only at e
  generalize aO:K.lookup T=o at e
  rcases o with _|o
  ·cases e
  ·dsimp only at e
   generalize hd:o.data=d at e
   induction d using Data.casesOn with
   |seq af k=>exact⟨af.toList,.inl ⟨T,o,k,he,ai _ _ (X _ _ aO),by erw[hd]⟩,SG X eG e⟩
   |_=>cases e
 |_=>cases e
theorem SI(P:Params):((iQ 55).all fun f=>match v5 P f with
 |some fd=>codeIn (H.c7 P) fd.code fd.qualname&&v7 (H.c7 P) (iV f) fd.defaults
 |none=>false)=true:=by kernel_rfl
noncomputable def SJ(f:Nat):Stmt→Bool
 | .FunctionDef _ a b _ _ _ sc _ _ _=>decide (sc.kind= .function)&& !sc.isCoroutine&& !sc.isGenerator&&qJ (sc.names.map (·.1))&&U (a.args.map (·.arg)=((slotsOf sc).map (·.1)).take a.args.length)&&
  a.posonlyargs.isEmpty&&a.kwonlyargs.isEmpty&&a.vararg.isNone&&a.kwarg.isNone&&U ((iV f).length≤a.args.length)
 |_=>false
theorem SK:((iQ 55).all fun f=>SJ f (ps f))=true:=by kernel_rfl
structure FnAt(P:Params)(f:Nat)(a:Arguments)(b:List Stmt)(sc:Scope)(o:Obj)(fd:FuncData):Prop where
 look:(H.c7 P).lookup (ha f)=I o
 data:o.data= .func fd
 params:fd.params=a
 body:fd.body= .stmts b
 scope:fd.scope=sc
 globals:fd.globals=mainGlobals
 closure:fd.closure=[]
 builtins:fd.builtins=builtinsNs
 code:codeIn (H.c7 P) fd.code fd.qualname=true
 dflt:v7 (H.c7 P) (iV f) fd.defaults=true
theorem SM{P:Params}{f:Nat}{fd:FuncData}(h:v5 P f=I fd):∃o,(H.c7 P).lookup (ha f)=I o∧o.data= .func fd:=by
 unfold v5 at h;generalize (H.c7 P).lookup (ha f)=o at h
 rcases o with _|o
 ·cases h
 ·dsimp only at h
  generalize hd:o.data=d at h
  induction d using Data.casesOn with
  |func aa1=>cases Option.some.inj h;exact⟨o,rfl,hd⟩
  |_=>cases h
theorem SN(P:Params){f:Nat}(hf:f<55){nm:Str}{a:Arguments}{b:List Stmt}{dl:List Expr}{oy:Option Expr}{c9:List TypeParam}{sc:Scope}{ts:Option Scope}{bd:Str}{p:Pos}(h:ps f= .FunctionDef nm a b dl oy c9 sc ts bd p):∃o fd,FnAt P f a b sc o fd:=by have aa:=List.map_inj_left.mp (SD P) f (kX.mpr hf);rw[h]at aa;obtain⟨fd,G8,aw⟩:=omap aa;obtain⟨o,aO,hd⟩:=SM G8;have ab:=h2.mp (SI P) f (kX.mpr hf);rw[G8]at ab;obtain⟨aq,ba⟩:=cC.mp ab;exact⟨o,fd,aO,hd,congrArg (·.1) aw,congrArg (·.2.1) aw,congrArg (·.2.2.1) aw,congrArg (·.2.2.2.1) aw,congrArg (·.2.2.2.2.1) aw,congrArg (·.2.2.2.2.2) aw,aq,ba⟩
structure G9(f:Nat)(a:Arguments)(sc:Scope):Prop where
 kind:sc.kind= .function
 co:sc.isCoroutine=false
 gen:sc.isGenerator=false
 nd:(sc.names.map (·.1)).Nodup
 pre:a.args.map (·.arg)=((slotsOf sc).map (·.1)).take a.args.length
 po:a.posonlyargs=[]
 G3:a.kwonlyargs=[]
 sS:a.vararg=J
 kw:a.kwarg=J
 dl:(iV f).length≤a.args.length
theorem SO{f:Nat}(hf:f<55){nm:Str}{a:Arguments}{b:List Stmt}{dl:List Expr}{oy:Option Expr}{c9:List TypeParam}{sc:Scope}{ts:Option Scope}{bd:Str}{p:Pos}(h:ps f= .FunctionDef nm a b dl oy c9 sc ts bd p):G9 f a sc:=by have ab:=h2.mp SK f (kX.mpr hf);rw[h]at ab;refine bC (fun ab SP=>?_) (cC.mp ab);refine bC (fun ab SQ=>?_) (cC.mp ab);refine bC (fun ab G'=>?_) (cC.mp ab);refine bC (fun ab v8=>?_) (cC.mp ab);refine bC (fun ab Ha=>?_) (cC.mp ab);refine bC (fun ab Hb=>?_) (cC.mp ab);refine bC (fun ab th=>?_) (cC.mp ab);refine bC (fun ab pG=>?_) (cC.mp ab);refine bC (fun a1 a2=>?_) (cC.mp ab);exact⟨of_decide_eq_true a1,(uz _).mp a2,(uz _).mp pG,z9 th,of_decide_eq_true Hb,km.mp Ha,km.mp v8,ur.mp G',ur.mp SQ,of_decide_eq_true SP⟩
def Hc(f:Nat)(sc:Scope):bV:=⟨slotsOf sc,D2 f,(slotsOf sc).length,sc.names.filterMap (fun(x,ej)=>if ej== .globalImplicit then I x else J),[],sc.names.filterMap (fun(x,ej)=>if ej== .cell then I x else J)⟩
inductive Hd(f:Nat)(fn:l2):Prop where
 |mk (nm:Str) (a:Arguments) (b:List Stmt) (dl:List Expr) (oy:Option Expr) (c9:List TypeParam) (sc:Scope) (ts:Option Scope) (bd:Str) (p:Pos) (body:bD) (e:ps f= .FunctionDef nm a b dl oy c9 sc ts bd p) (ae:kx (Hc f sc) b=I body) (pP:fn=⟨a.args.length,(slotsOf sc).length+3,iV f,D3 f,body⟩):Hd f fn
theorem SR{f:Nat}{fn:l2}(h:bl f=I fn):Hd f fn:=by
 unfold bl at h;generalize e:ps f=x at h
 induction x using Stmt.casesOn with
 |FunctionDef nm a b dl oy c9 sc ts bd p=>obtain⟨body,aa,ab⟩:=omap h;exact⟨nm,a,b,dl,oy,c9,sc,ts,bd,p,body,e,aa,ab.symm⟩
 |_=>cases h
theorem ti{sc:Scope}{x:Str}{i:Nat}(h:(slotsOf sc).lookup x=I i):((slotsOf sc).map (·.1))[i]? =I x∧((x,NameKind.local)∈sc.names∨(x,NameKind.cell)∈sc.names):=by
 have m:=vI h;unfold slotsOf at m⊢;have ma:=List.mem_zipIdx_iff_getElem?.mp m;refine⟨by erw[lP,List.getElem?_zipIdx,ma];simp,?_⟩;obtain⟨y,aV,e⟩:=f9.mp (fI ma);obtain⟨aa,ab⟩:=CU.mp aV;simp only[qv,beq_iff_eq]at ab;obtain⟨eU,fq⟩:=y
 dsimp only at e ab
 subst e
 rcases ab with rfl|rfl
 ·exact .inl aa
 ·exact .inr aa
end
end Mine
end
section
open PySem PySem.W PySem.Calls PyProof.Rows PySem.SeqAt
namespace Mine
noncomputable section
section
variable{A:Around}{G:Addr→Obj→Prop}{W W1:a3}{fm:bS}{st et:St}{s:Shared}
theorem tj{sc:Scope}{env:Env}(he:env.scope=sc)(nd:(sc.names.map (·.1)).Nodup){x:Str}{i:Nat}(h:(slotsOf sc).lookup x=I i):(jZ fm st sc env).e2 x=I .local∨(jZ fm st sc env).e2 x=I .cell∧(x,NameKind.cell)∈sc.names:=by
 have e:(jZ fm st sc env).e2 x=sc.names.lookup x:=by unfold bS.e2;erw[if_neg (by simp[jZ])];show env.scope.names.lookup x=_;erw[he]
 erw[e]
 rcases(ti h).2 with m|m
 ·exact .inl (ll nd m)
 ·exact .inr ⟨ll nd m,m⟩
theorem SS{f:Nat}{sc:Scope}{env:Env}(he:env.scope=sc)(ok:G9 f a sc)(aK:env.globals=mainGlobals)(vl:env.builtins=builtinsNs)(yR:env.cells.Pairwise fun x y=>x.2≠y.2):dw (Hc f sc) (jZ fm st sc env) where
 vars:=rfl
 kind:=by erw[he];exact ok.kind
 ej:=fun x i h=>(tj he ok.nd h).elim .inl fun h=>.inr (.inl h.1)
 inj:=fun x y i aa ab=>by have au:=(ti ab).1;rw[((ti aa).1)]at au;cases au;rfl
 apart:=fun x y i j c aa ab aq ba b0 d2=>name_of_addr yR (LW aq) (LW ba)
 sD:=fun x h=>by
  obtain⟨⟨y,k⟩,aV,e⟩:=qr.mp h
  dsimp only at e
  split at e
  ·rename_i ai;cases (e);show env.scope.names.lookup x=_;erw[he,←beq_iff_eq.mp ai];exact ll ok.nd aV
  ·cases e
 gl:=fun x h=>by
  obtain⟨⟨y,k⟩,aV,e⟩:=qr.mp h
  dsimp only at e
  split at e
  ·rename_i ai;cases (e);show env.scope.names.lookup x=_;erw[he,←beq_iff_eq.mp ai];exact ll ok.nd aV
  ·cases e
 glob:=aK
 blt:=vl
theorem cM.get:∀{xs:List X} {us:List Value} {i:Nat} {x:X},cM W xs us→xs[i]? =I x→∃u,us[i]? =I u∧b8 W x u:=by
 intro xs
 induction xs with
 |nil=>intro us i y _ e;exact c1 e
 |cons x xs aD=>
  intro us i y h e
  induction us using bY with
  |nil=>exact h.elim
  |cons u us=>
  induction i using fe with
  |zero=>cases Option.some.inj e;exact⟨u,rfl,h.1⟩
  |succ i=>exact aD (i:=i) h.2 e
theorem cM.app:∀{xs aS:List X} {us vs:List Value},cM W xs us→cM W aS vs→cM W (xs++aS) (us++vs)
 |[],_,[],_,_,h=>h
 |_::_,_,_::_,_,a,h=>⟨a.1,cM.app a.2 h⟩
 |[],_,_::_,_,a,_=>a.elim
 |_::_,_,[],_,a,_=>a.elim
def SU(G:Addr→Obj→Prop)(W:a3)(fm:bS)(st:St)(s:Shared)(iA:Addr→Obj→Prop)(fm':bS)(st':St):Prop:=∀a,(∃o,s.heap.get? a=I o)→Off G W fm st a→Off iA W fm' st' a
theorem He{sc:Scope}(h:(sc.names.map (·.1)).Nodup):((slotsOf sc).map (·.1)).Nodup:=by unfold slotsOf;rw[List.zipIdx_map_fst];exact h.sublist (List.Sublist.map _ List.filter_sublist)
theorem fill{u d N:Nat}(aa:u≤N)(ab:N≤u+d):u+(d-(d-(N-u)))=N:=by erw[xR (Nat.sub_le_iff_le_add'.mpr ab),mG aa]
theorem Hf(aQ:cH w ae cb cm)(bk:eC w ae C n):yP w ae C n:=by
 intro A W1 fm st et s f hf fn kH ax ext G0 ai fV mk xs us fu aa ab r kz aN el;obtain⟨nm,a,b,dl,oy,c9,sc,ts,bd,p,body,eI,vc,rfl⟩:=SR kH;obtain⟨o,fd,F⟩:=SN w.params hf eI;have S:=SO hf eI;have K:=aQ.K.keeps ai;obtain⟨ds,D,Hg⟩:=SH (W:=W1) aQ.K fV ai F.dflt;have tl:us.length=xs.length:=fu.length;have v9:ds.length=(iV f).length:=Hg.1;have q7:(a.args.map (·.arg)).length=a.args.length:=bF _;have AG:(a.args.map (·.arg)).Nodup:=by erw[S.pre];exact List.Nodup.sublist (List.take_sublist _ _) (He S.nd)
 dsimp only at aa ab aN
 have PP:AD fd (a.args.map (·.arg)):=⟨by erw[F.params,S.po],by erw[F.params],by erw[F.params,S.sS],by erw[F.params,S.G3],by erw[F.params,S.kw]⟩
 have BT:=Sy (vals:=us) PP D AG (q7.symm▸tl▸aa) (q7.symm▸tl▸v9▸ab) (by erw[q7,v9];exact S.dl);generalize Hh:us++ds.drop (ds.length-((a.args.map (·.arg)).length-us.length))=full at BT;have Hi:full.length=a.args.length:=by erw[←Hh,b4,CT,q7];exact fill (tl▸aa) (tl▸v9▸ab)
 have Hj:cM W1 (xs++((iV f).drop ((iV f).length-(a.args.length-xs.length))).map X.v) full:=by erw[←Hh,v9,q7,tl];exact cM.app fu (b5.GG (Hg.drop _))
 have q8:(((a.args.map (·.arg)).zip full).map (·.1))=a.args.map (·.arg):=List.map_fst_zip (by erw[q7,Hi];exact bE _);refine codeAny_call_function (o:=o) (fd:=fd) (body:=b) (by have:=ax.d;lia) (K _ _ F.look) F.data (by erw[F.scope];exact S.co) (by erw[F.scope];exact S.gen) F.body (codeRec_of K F.code) ?_;refine BT _ _ _ _ ?_;erw[F.closure,F.scope];have vE:∀x∈a.args.map (·.arg),∃i,(slotsOf sc).lookup x=I i:=by intro x aC;replace aC:=S.pre▸aC;obtain⟨y,aV,rfl⟩:=f9.mp (aaj aC);exact⟨y.2,ll (He S.nd) aV⟩
 refine wpAny_newFunctionEnv_cells S.kind (fun x aC=>?_) fun env he s1 x=>?_
 ·have hm:x.1∈a.args.map (·.arg):=by erw[←q8];exact f9.mpr ⟨x,aC,rfl⟩
  obtain⟨i,aw⟩:=vE _ hm
  rcases(ti aw).2 with m|m
  ·exact .inl (ll S.nd m)
  ·exact .inr ⟨ll S.nd m,LP.mpr (G2 (.inl m))⟩
 ·have hD:env.scope=sc:=by erw[he];rfl
  have Hk:env.locals=s.heap.objs.size:=by erw[he];rfl
  have SV:env.cells=cellsFrom (s.heap.objs.size+1) sc.names []:=by erw[he];rfl
  have SW:env.globals=mainGlobals:=by erw[he];exact F.globals
  have SX:env.builtins=builtinsNs:=by erw[he];exact F.builtins
  refine⟨(aQ.lim.keeps ai).keeps x.toInCall.keep,codeAny_func ?_⟩;obtain⟨j0,tk,rfl⟩:=x.toInCall.same;have Hl:∀y (i:Nat),(slotsOf sc).lookup y=I i→(jZ fm st sc env).e2 y=I .cell→∃c,env.cells.lookup y=I c∧c≠env.locals∧j0.IsCell c (bindC env.kindOf ((a.args.map (·.arg)).zip full) (fun ag=>J) y)∧s.heap.get? c=J:=by
   intro y i aV ai
   rcases tj (fm:=fm) (st:=st) hD S.nd aV with h|⟨_,hm⟩
   ·cases ai.symm.trans h
   ·obtain⟨c,ah⟩:=G2 (n:=s.heap.objs.size+1) (acc:=[]) (.inl hm);replace ah:=(SV).symm▸ah;have dQ:=x.above _ _ (LW ah);exact⟨c,ah,Nat.ne_of_gt dQ,x.cell _ _ ah,Heap.get?_none_of_le (Hk▸c' dQ)⟩
  have SY:=mk (tk:=tk) ⟨hD,S.nd,Hk,x.toInCall.keep,⟨_,x.toInCall.ns⟩,fun y i aa ab=>(Hl y i aa ab).elim fun c e=>⟨c,_,e.1,e.2.1,e.2.2.1,e.2.2.2⟩⟩;have slot:∀y (i:Nat) v,(slotsOf sc).lookup y=I i→((xs++((iV f).drop ((iV f).length-(a.args.length-xs.length))).map X.v).map I++xM ((slotsOf sc).length+3-a.args.length) J)[i]? =I (I v)→∃u,(y,u)∈(a.args.map (·.arg)).zip full∧b8 W1 v u:=by
   intro y i v aV aJ;have Hm:(xs++((iV f).drop ((iV f).length-(a.args.length-xs.length))).map X.v).length=a.args.length:=by erw[←Hj.length,Hi]
   have aw:i<a.args.length:=by
    apply Nat.lt_of_not_le;intro q9;rw[iR (by erw[bF,Hm];exact q9),List.getElem?_replicate]at aJ
    split at aJ<;>cases aJ
   rw[mD (by erw[bF,Hm];exact aw),lP]at aJ;obtain⟨fK,vL,e⟩:=omap aJ;cases e;obtain⟨u,hb,eV⟩:=Hj.get vL;have aA:(a.args.map (·.arg))[i]? =I y:=by erw[S.pre,CO,if_pos aw];exact(ti aV).1
   refine⟨u,?_,eV⟩;refine fI (i:=i) ?_;erw[List.getElem?_zip_eq_some];exact⟨aA,hb⟩
  have vP:=SY.Sk (loc:=(xs++((iV f).drop ((iV f).length-(a.args.length-xs.length))).map X.v).map I++xM ((slotsOf sc).length+3-a.args.length) J)
   ⟨⟨_,x.toInCall.ns,fun y i v aa ab aq=>by
    obtain⟨u,hb,eV⟩:=slot y i v aa aq;exact⟨u,Sm (bS.n4 ab (by decide)) (q8.symm▸AG) hb,eV⟩⟩,
   fun y i aa ab=>by
    obtain⟨c,ay,au,bo,_⟩:=Hl y i aa ab;refine⟨c,_,ay,au,bo,fun z bw=>?_⟩;obtain⟨u,hb,eV⟩:=slot y i z aa bw;refine⟨u,So ?_ (q8.symm▸AG) hb,eV⟩;erw[show env.kindOf y=I .cell from bS.n4 ab (by decide)];decide,
   fun y i aa ab=>by rcases tj (fm:=fm) (st:=st) hD S.nd aa with h|⟨h,_⟩<;>cases ab.symm.trans h⟩
  have S0:d1 n (A.deeper env):=⟨ax.h,by show A.depth+1+3*n+110<_;have:=ax.d;lia,by show A.units+3+60*n+60<_;have:=ax.u;lia⟩
  refine Aw (wpAny_mono (Sj aQ bk vc _ S0 (SS (fm:=fm) (st:=st) hD S SW SX x.apart) vP aN) (fun dB h6 q=>?_) fun ag ag x=>x);obtain⟨eD,j3,gf,hT,ml⟩:=q;refine el j3 gf (fun i=>rfl) ?_ ml
  induction r using R.casesOn with
  |ret y=>induction dB using Flow.casesOn with
   |ret v=>exact hT
   |_=>exact hT.elim
  |next=>induction dB using Flow.casesOn with
   |next=>rfl
   |_=>exact hT.elim
  |cont=>induction dB using Flow.casesOn with
   |cont=>rfl
   |_=>exact hT.elim
theorem enter_call(aQ:cH w ae cb cm)(bk:eC w ae C n){f:Nat}(hf:f<55){fn:l2}(kH:bl f=I fn)(ax:px (n+1) A)(R:Rel w ae G W fm st s){ext:List Cell}(le:W.le W1)
  (S1:∀{fm':bS} {s1:Shared} {iA:Addr→Obj→Prop},Rel w ae iA W fm' {st with loc:=[],base:=st.heap.length} s1→(∀b o,s.heap.get? b=I o→s1.heap.get? b=I o)→SU G W fm st s iA fm' {st with loc:=[],base:=st.heap.length}→Rel w ae iA W1 fm' {st with loc:=[],base:=st.heap.length,heap:=st.heap++ext} s1)
  {xs:List X} {us:List Value} (fu:cM W1 xs us) (aa:xs.length≤fn.np) (ab:fn.np≤xs.length+fn.dflt.length) {r:Mine.R} {kz:Result→Shared→Prop}
  (aN:bI C fn.body ⟨(xs++(fn.dflt.drop (fn.dflt.length-(fn.np-xs.length))).map X.v).map I++xM (fn.ns-fn.np) J,st.heap++ext,st.tag,st.heap.length⟩=I (r,et))
  (el:∀{fm' eD h6 v},W1.le eD→Rel w ae (i3 G fm s.heap) eD fm' et h6→(∀i,fm'.bd i=hx fm st.base st.heap.length i)→Ec eD v r→h6.os=s.os→kz (.ok (.ret v)) h6):
  codeAny (model a4 w) A (.call (.ref (ha f)) ⟨us,[]⟩) kz s:=by
 refine Hf aQ bk hf kH ax (G0:=i3 G fm s.heap) (fm:=fm) (fun b o e=>R.cD _ _ (R.base b o e)) (fun a o h=>le.F _ _ (R.base a o h)) ?_ fu aa ab aN el;intro sc env j0 tk M;have fresh:∀a,hv (jZ fm st sc env) a→s.heap.get? a=J:=by
  rintro a (e|⟨y,i,aa,ab,aq⟩)
  ·exact Heap.get?_none_of_le (e.trans M.loc▸bE _)
  ·obtain⟨c,v,ay,_,_,cg⟩:=M.cells y i aa ab;cases ay.symm.trans aq;exact cg
 have ar:fm.env.locals≤env.locals:=by refine f7 (R.lo.alive (.loc rfl)) fun o aO=>?_;exact M.loc▸c' (Heap.lt_size aO)
 have Ae:Rel w ae (i3 G fm s.heap) W (jZ fm st sc env) {st with loc:=[],base:=st.heap.length} {s with heap:=j0,toks:=tk}:=by
  refine f7 (M.ns) fun m s6=>?_;refine R.enter (fm':=jZ fm st sc env) (loc':=[]) (b':=st.heap.length) M.keep fresh ⟨⟨_,s6,fun y i v ag ag h=>by cases h⟩,fun y i aa ab=>?_,fun y i aa ab=>?_⟩ (fun i aw=>?_) (bE _) (fun i aw=>?_) (bR R.above ar)
  ·obtain⟨c,v,ay,au,bo,cg⟩:=M.cells y i aa ab;exact⟨c,v,ay,au,bo,fun z h=>by cases h⟩
  ·rcases tj (fm:=fm) (st:=st) M.es M.nd aa with h|⟨h,_⟩<;>cases ab.symm.trans h
  ·exact(yO (fm:=jZ fm st sc env) aw).symm▸bE _
  ·exact R.Fe i
 refine S1 Ae M.keep ?_;rintro c ⟨aa2,S2⟩ off;refine⟨?_,off.f,fun br g=>g.elim (off.g br) fun g=>off.o g.zu⟩;rintro(h|⟨i,d,q,l,e⟩)
 ·exact mS (fresh c h) S2
 ·exact off.o (.hp i d q l e)
end
end
end Mine
end
section
open PySem PySem.W PySem.Calls PyProof.Rows PySem.SeqAt
namespace Mine
noncomputable section
inductive Hn(fns:Nat→Option l2)(n f:Nat)(xs:List X)(h:List Cell)(t b:Nat)(res:X×List Cell×Nat):Prop where
 |mk (fn:l2) (r:R) (et:St) (kH:fns f=I fn) (aa:xs.length≤fn.np) (ab:fn.np≤xs.length+fn.dflt.length) (aC:bI (bu fns n) fn.body ⟨qK fn xs,h,t,b⟩=I (r,et)) (ef:et.base=b) (e6:h.length≤et.heap.length)
   (fW:h.length=b∨(h.length=b+1∧(et.heap[b]?).any (yJ (b+1))=true)) (lu:sl fn.rc h.length (k8 r) et=I res):Hn fns n f xs h t b res
theorem AH{fns:Nat→Option l2}{n f:Nat}{xs:List X}{h:List Cell}{t b:Nat}{res:X×List Cell×Nat}(e:bu fns (n+1) f xs h t b=I res):Hn fns n f xs h t b res:=by refine eA fun cF=>?_;obtain⟨fn,kH,ay⟩:=aU (show(fns f).bind (fun fn=>if xs.length≤fn.np∧fn.np≤xs.length+fn.dflt.length then aY (bI (bu fns n) fn.body ⟨qK fn xs,h,t,b⟩) fun r st=>if l3 h.length b st then sl fn.rc h.length (k8 r) st else J else J)=I res from e);obtain⟨⟨aa,ab⟩,au⟩:=c0 ay;obtain⟨r,et,aC,bo⟩:=b2 au;obtain⟨ok,lu⟩:=c0 bo;refine cF ?_;unfold l3 at ok;simp only[uy,qv,decide_eq_true_eq]at ok;exact⟨fn,r,et,kH,aa,ab,aC,ok.1.1,ok.1.2,ok.2,lu⟩
inductive tm(rc:Bool)(k:Nat)(y:X)(st:St)(res:X×List Cell×Nat):Prop where
 |val (a:V) (e:y= .v a) (au:res=(.v a,st.heap.take k,st.tag)):tm rc k y st res
 |cell (i:Nat) (aS:List V) (e:y= .cell i) (aw:k≤i) (ah:st.heap[i]? =I (.lst aS)) (au:res=(.cell k,st.heap.take k++[.lst aS],st.tag)):tm rc k y st res
 |lst (i:Nat) (aS:List V) (e:y= .cell i) (aw:k≤i) (ah:st.heap[i]? =I (.lst aS)) (au:res=(.v (.lst aS),st.heap.take k,st.tag)):tm rc k y st res
 |inst (i c:Nat) (fs:List (Nat×X)) (gs:List (Nat×V)) (e:y= .cell i) (aw:k≤i) (ah:st.heap[i]? =I (.inst c fs)) (hp:mM fs=I gs) (au:res=(.cell k,st.heap.take k++[.inst c fs],st.tag)):tm rc k y st res
theorem AI{rc:Bool}{k:Nat}{y:X}{st:St}{res:X×List Cell×Nat}(h:sl rc k y st=I res):tm rc k y st res:=by
 induction y using X.casesOn with
 |v a=>exact .val a rfl (Option.some.inj h).symm
 |cell i=>
  obtain⟨aw,aa⟩:=c0 (show(if k≤i then(st.heap[i]?).bind (D4 rc k st)else J)=I res from h);obtain⟨c,ah,ab⟩:=aU aa
  induction c using Cell.casesOn with
  |lst xs=>
   rcases h5 (show(if rc=true then I (X.cell k,st.heap.take k++[.lst xs],st.tag)else I (X.v (.lst xs),st.heap.take k,st.tag))=I res from ab)with⟨_,e⟩|e
   ·exact .cell i xs rfl aw ah (Option.some.inj e).symm
   ·exact .lst i xs rfl aw ah (Option.some.inj e).symm
  |inst c fs=>obtain⟨hp,e⟩:=c0 (show(if(mM fs).isSome then I (X.cell k,st.heap.take k++[.inst c fs],st.tag)else J)=I res from ab);obtain⟨gs,pQ⟩:=LP.mp hp;exact .inst i c fs gs rfl aw ah pQ (Option.some.inj e).symm
  |_=>exact c1 ab
theorem S3{k:Nat}:∀{fs:List (Nat×X)},uV k fs=true→∀j y,er j fs=I y→iW k y:=by
 intro aT
 induction aT with
 |nil=>intro _ j y h;cases h
 |cons dA r aD=>
  obtain⟨i,x⟩:=dA;intro h j y e;obtain⟨aa,ab⟩:=cC.mp (show(DV k x&&uV k r)=true from h)
  rcases h5 (show(if i=j then I x else er j r)=I y from e)with⟨_,e⟩|e
  ·cases e
   induction x using X.casesOn with
   |v v=>trivial
   |cell c=>exact show c<k from of_decide_eq_true aa
  ·exact aD ab j y e
section
theorem S4(aQ:cH w ae cb cm)(bk:eC w ae C n):eC w ae (bu bl (n+1)) (n+1):=by
 constructor
 ·intro A G W fm st s f xs us x h t ax R fu hf ah;obtain⟨fn,r,et,kH,aa,ab,aC,ef,e6,fW,lu⟩:=AH ah;refine wpAny_call ?_;refine enter_call aQ bk hf kH ax R (ext:=[]) .rfl (fun de ag ag=>by erw[ei];exact de) fu aa ab (by erw[ei];exact aC) fun{fm' eD h6 v} j3 gf ib aJ ml=>?_;have ct:b8 eD (k8 r) v:=by
   cases r with
   |ret y=>exact aJ
   |next=>erw[aJ];exact .bB
   |cont=>erw[aJ];exact .bB
  have q':=R.cut j3 gf e6 ef ib;have v':W.le {eD with p:=W.p}:=⟨j3.F,j3.t,ir _⟩
  have qU:∀q:Addr×Addr,(W.p++[q])[st.heap.length]? =I q:=fun q=>by erw[←R.len,iR (bE _),kY];rfl
  have Ho:∀q:Addr×Addr,({eD with p:=W.p}:a3).le {eD with p:=W.p++[q]}:=fun q=>⟨fun ag ag h=>h,ir _,o3 _ _⟩;show d9 w ae G W fm s _ x v h6;have E:=AI lu;clear aC bk aJ lu ah;generalize k8 r=y at E ct
  rcases E with⟨a,e,au⟩|⟨i,aS,e,aw,iX,au⟩|⟨i,aS,e,aw,iX,au⟩|⟨i,c,fs,gs,e,aw,iX,pQ,au⟩
  ·cases e;cases au;exact⟨_,v',q',dd.hU ct,ml⟩
  ·cases e;cases au;obtain⟨q,aE,rfl⟩:=ct;obtain⟨e,vs,pl,bO⟩:=gf.cells i _ q iX aE;exact⟨{eD with p:=W.p++[q]},v'.trans (Ho q),q'.n6 (c:=.lst aS) (R.v3 j3 gf aw iX rfl aE) ⟨e,vs,pl,bO.hU⟩,⟨q,qU q,rfl⟩,ml⟩
  ·cases e;cases au;obtain⟨q,aE,rfl⟩:=ct;obtain⟨e,vs,⟨k,pl⟩,bO⟩:=gf.cells i _ q iX aE;refine⟨_,v'.trans a3.gE,q'.mT (R.v3 j3 gf aw iX rfl aE) pl,?_,ml⟩;erw[e];exact .lst (.inr ⟨rfl,rfl⟩) ⟨k,rfl⟩ bO.1 (bO.hU.mono a3.gE).2
  ·cases e;cases au;obtain⟨q,aE,rfl⟩:=ct;obtain⟨f0,m,hm,ex,g⟩:=gf.cells i _ q iX aE;refine⟨{eD with p:=W.p++[q]},v'.trans (Ho q),q'.n6 (c:=.inst c fs) (R.v3 j3 gf aw iX rfl aE) ⟨f0,m,hm,ex,fun j y a'=>?_⟩,⟨q,qU q,rfl⟩,ml⟩;obtain⟨z,bw⟩:=(ta pQ j).2 y a';obtain rfl:=Option.some.inj (a'.symm.trans ((ta pQ j).1 z bw));obtain⟨_,v,e,r⟩:=g j _ a';exact⟨trivial,v,e,(dd.hU (W:=eD) (P:=W.p++[q]) r:dd {eD with p:=W.p++[q]} z v)⟩
 ·intro A G W fm st s c xs us h t x dx ax R fu ah Hp Hq S5 vU i0 Hr;obtain⟨fn,r,et,kH,aa,ab,aC,ef,e6,fW,lu⟩:=AH Hr;have hlen:(st.heap++[Cell.inst c []]).length=st.heap.length+1:=by simp
  rw[hlen]at e6 fW lu;have fW:(et.heap[st.heap.length]?).any (yJ (st.heap.length+1))=true:=by
   rcases fW with h|h
   ·lia
   ·exact h.2
  have AJ:W.le {(W.iB x (instObj (dE c) dx))with p:=W.p++[(x,dx)]}:=⟨fun ag ag h=>.inl h,ir _,o3 _ _⟩
  have S6:b8 {(W.iB x (instObj (dE c) dx))with p:=W.p++[(x,dx)]} (.cell st.heap.length) (.ref x):=⟨(x,dx),by
   show(W.p++[(x,dx)])[st.heap.length]? =_;erw[←R.len,iR (bE _),kY];rfl,rfl⟩
  refine enter_call aQ bk (Gp w.params ah).2.2.2.2 kH ax R (ext:=[.inst c []]) AJ (fun{fm' s1 iA} de ai Hs=>?_) (xs:=.cell st.heap.length::xs) (us:=.ref x::us) ⟨S6,fu.mono AJ⟩ aa ab aC fun{fm' eD h6 v} j3 gf ib aJ ml=>?_
  ·have a0:=Hs x ⟨_,Hp⟩ S5;have cK:=Hs dx ⟨_,Hq⟩ vU;refine(de.mT a0 (ai _ _ Hp)).n6 (q:=(x,dx)) (c:=.inst c []) ⟨cK.o,?_,cK.g⟩ ?_
   ·rintro o (f|⟨e,_⟩)
    ·exact cK.f o f
    ·exact i0 e.symm
   ·refine⟨.inr ⟨rfl,rfl⟩,fun ag=>J,?_,fun s v h=>(by cases h),fun k y h=>by cases h⟩;exact Heap.Ns1.of_empty ⟨_,#[],_,ai _ _ Hq,rfl,fun e he=>absurd he (by simp),fun ag=>rfl⟩
  ·have ct:b8 eD (k8 r) v:=by
    cases r with
    |ret y=>exact aJ
    |next=>erw[aJ];exact .bB
    |cont=>erw[aJ];exact .bB
   have S7:v= .none∧h=et.heap.take (st.heap.length+1)∧t=et.tag:=by
    have E:=AI lu;clear aC bk aJ lu Hr;generalize k8 r=y at E ct
    rcases E with⟨a,e,au⟩|⟨i,aS,e,aw,ah,au⟩|⟨i,aS,e,aw,ah,au⟩|⟨i,c,fs,gs,e,aw,ah,hp,au⟩
    ·subst e;obtain⟨e,bo⟩:=Prod.mk.inj au;cases X.v.NN e;exact⟨NO ct,Prod.mk.inj bo⟩
    ·cases au
    ·cases au
    ·cases au
   obtain⟨rfl,rfl,rfl⟩:=S7;have wa:=AJ.trans j3;have q':=R.cut wa gf (c' ‹_›) ef ib;have Ht:(et.heap.take (st.heap.length+1)).take st.heap.length=et.heap.take st.heap.length:=by erw[List.take_take];congr 1;lia
   refine⟨rfl,{eD with p:=W.p},⟨wa.F,wa.t,ir _⟩,rfl,by erw[Ht];exact q',by erw[List.length_take];lia,fun dr fs wb=>?_,ml⟩;rw[CO,if_pos (kk _)]at wb;have aE:=l4 j3.p (by
    show(W.p++[(x,dx)])[st.heap.length]? =_;erw[←R.len,iR (bE _),kY];rfl)
   refine⟨by erw[Ht];exact R.v3 wa gf (bE _) wb rfl aE,?_⟩;obtain⟨f0,m,hm,ex,g⟩:=gf.cells _ _ _ wb aE;rw[wb]at fW;have:e' w eD h6.heap (st.heap.length+1) (x,dx) (.inst dr fs):=⟨f0,m,hm,ex,fun k y ai=>⟨S3 fW k y ai,(g k y ai).2⟩⟩
   exact e'.hU (W:=eD) (P:=W.p++[(x,dx)]) j3.p (by erw[b4,R.len];exact bE _) this
theorem Hu(k:mR):su k:=NI (fun aQ bk=>⟨S4 aQ bk,Hf aQ bk⟩) k
theorem S8{w:World}{ae:Heap}{cb cm:Str→Option Value}(aQ:cH w ae cb cm):∀n,eC w ae (bu bl n) n:=by
 intro eW
 induction eW with
 |zero=>exact⟨fun ag ag ag ag h=>(by cases h),fun ag ag ag ag ag ag ag ag ag h=>(by cases h)⟩
 |succ n aD=>exact(Hu ⟨w,ae,cb,cm,n⟩ aQ (aD)).1
theorem S9{w:World}{ae:Heap}{cb cm:Str→Option Value}(aQ:cH w ae cb cm)(n:Nat):yP w ae (bu bl n) n:=(Hu ⟨w,ae,cb,cm,n⟩ aQ (S8 aQ n)).2
end
end
end Mine
end
section
open PySem PySem.W PySem.Calls PyProof.Rows PySem.SeqAt
namespace Mine
noncomputable section
noncomputable def m4:bS:=⟨⟨⟨.function,[],false,false,[]⟩,0,0,[],Str.empty,J,.none,J,0⟩,[],fun ag=>0,[]⟩
noncomputable def hB:St:=⟨[],[],0,0⟩
noncomputable def sW(h:Heap):a3:=⟨fun a o=>h.get? a=I o,[],[]⟩
theorem S'{w:World}{s:Shared}(aK:s.gens= #[]):Eb w s.heap (fun ag ag=>False) (sW s.heap) m4 hB [] s:=by
 intro sc env j0 tk M;obtain⟨m,s6⟩:=M.ns;have no {i c q} {P:Prop} (l:gD [] [] i c q):P:=c1 l.1;have fresh:∀a,hv (jZ m4 hB sc env) a→s.heap.get? a=J:=by
  rintro a (e|⟨y,i,aa,ab,aq⟩)
  ·exact Heap.get?_none_of_le (e.trans M.loc▸bE _)
  ·obtain⟨c,v,ay,_,_,cg⟩:=M.cells y i aa ab;cases ay.symm.trans aq;exact cg
 exact{
  cD:=M.keep
  e3:=fun a o g=>g.elim
  len:=rfl
  tag:=rfl
  cl:=fun l=>no l
  apart:=fun l=>no l
  fU:=fun a h o f=>by
   rcases h with h|⟨i,c,q,l,_⟩
   ·exact mS (fresh a h) f
   ·exact no l
  eB:=fun a h o g=>g
  g':=fun l=>no l
  lo:=⟨⟨m,s6,fun x i v ag ag h=>by cases h⟩,fun x i aa ab=>by
   obtain⟨c,v,ay,au,bo,cg⟩:=M.cells x i aa ab;exact⟨c,v,ay,au,bo,fun y h=>by cases h⟩,fun x i aa ab=>by
   rcases tj (fm:=m4) (st:=hB) M.es M.nd aa with h|⟨h,_⟩<;>cases ab.symm.trans h⟩
  gens:=aK
  cP:=bE _
  fz:=fun a o br f g=>g
  base:=fun a o h=>h
  above:=M.loc▸bE _
  n5:=fun i h=>absurd h (o5 i)}
theorem has_int{d:WData}(h:WShape.has [] d .int=true):∃i,d= .int i:=by cases d<;>first|exact⟨_,rfl⟩|cases h
theorem has_list{d:WData}(h:WShape.has [] d (.list .int)=true):∃xs,d= .list xs∧WShape.hasItems [] xs .int=true:=by
 cases d with
 |list xs=>exact⟨xs,rfl,(LX _).symm.trans h⟩
 |_=>cases h
theorem Ta{P:Params}{h:Heap}{W:a3}:∀{vs:List Value} {xs:List WData},WShape.hasItems [] xs .int=true→WellAll P h vs xs→∃ns:List Int,ns.length=xs.length∧b5 W (ns.map .int) vs:=by
 intro vs
 induction vs with
 |nil=>
  intro xs _ hw
  induction xs using bY with
  |nil=>exact⟨[],rfl,.nil⟩
  |cons=>exact nomatch hw
 |cons v vs aD=>
  intro xs he hw
  induction xs using bY with
  |nil=>exact nomatch hw
  |cons d ds=>
  cases hw with|cons a b=>
  obtain⟨aa,ab⟩:=cC.mp (show(WShape.has [] d .int&&WShape.hasItems [] ds .int)=true from he);obtain⟨i,rfl⟩:=has_int aa;obtain⟨ns,e,r⟩:=aD ab b;cases a;exact⟨i::ns,congrArg (· +1) e,.cons (.int _ _) r⟩
set_option backward.match.sparseCases true in
theorem Tb{xs:List WData}(h:WTm.holds [] (OpenLaw.pre PySem.Challenge.rw_tu0005_01) {args:=[.list xs]}=true):xs.length≤63:=by
 have e:WTm.value [] (OpenLaw.pre PySem.Challenge.rw_tu0005_01) {args:=[.list xs]}=match I (WData.bool (!U ((63:Int)<(xs.length:Int))))with
  |some (.bool false)=>I (.bool false)
  |some (.bool true)=>I (.bool true)
  |_=>J:=rfl
 unfold WTm.holds at h;rw[e]at h;refine bZ (fun ar:(63:Int)<(xs.length:Int)=>?_) (fun ar=>?_)
 ·rw[decide_eq_true ar]at h;cases h
 ·omega
set_option tactic.hygienic true in
theorem Tc(tn:∀ns:List Int,ns.length≤63→∃h t,bu bl 20 54 [.v (.lst (ns.map .int))] [] 0 0=I (.v (.bool true),h,t)):
  WalkO H.fg H.lo (fun ag ag=>True) H.ai.says PySem.Challenge.rw_tu0005_01.row.toRowW H.DO [] fun f vs=>PySem.call f vs:=by
 intro w aa3 s₁ cb cm G Y a o pm cd doc nU DC aa ab aq ba b0 Td args vals as yh aa4 aa5 Te aa6;have K:=Y;have aQ:cH w s₁.heap cb cm:=⟨K,G.T.g,G.T.b,G.T.nolimit,G.T.builtins⟩
 have aB:cb (Str.ofString "law")=I (.ref (ha 54)):=mg_of K G.T.g (Gn w.params (f:=54) (by decide) rfl);have dC:cb (Str.ofString "law")=I (.ref a):=b0;rw[aB]at dC;cases dC;obtain⟨cL,ck⟩:=pre_splitW yh;obtain⟨d,r,rfl,eu,gc⟩:=hasAllW_cons cL;cases hasAllW_nil gc;obtain⟨xs,rfl,hg⟩:=has_list eu;have hlen:=Tb ck;cases Te with|cons ie oz=>
 cases oz;cases ie with|list ar hw=>
 rename_i l vs;obtain⟨ns,ay,bO⟩:=Ta (W:=sW s₁.heap) hg hw;obtain⟨hh,t,ah⟩:=tn ns (by omega);obtain⟨fn,r,et,kH,ef,e6,aC,_,_,_,lu⟩:=AH ah;refine wpAny_call ?_;have Tf:px 20 callerA:=⟨rfl,by decide,by decide⟩
 have hf:54<55:=by decide
 refine S9 aQ 19 hf kH Tf (ext:=[]) (G0:=fun ag ag=>False) (fm:=m4) (st:=hB) (W1:=sW s₁.heap) (fun b o e=>e) (fun a o h=>h) (S' Td) (xs:=[.v (.lst (ns.map .int))]) (us:=[.ref l]) ⟨?_,trivial⟩ ef e6 aC fun{fm' eD h6 v} j3 gf ib aJ ml=>?_
 ·exact .lst (vs:=vs) (o:={cls:=.type "list",data:=.seq vs.toArray}) ar ⟨0,rfl⟩ bO.1 bO.2
 ·have av:k8 r= .v (.bool true):=by
   cases AI lu with
   |val a e au=>erw[e];cases au;rfl
   |cell i aS e aw ah au=>cases au
   |lst i aS e aw ah au=>cases au
   |inst i c fs gs e aw ah hp au=>cases au
  have ct:b8 eD (k8 r) v:=by
   induction r using R.casesOn with
   |ret y=>exact aJ
   |next=>erw[aJ];exact .bB
   |cont=>erw[aJ];exact .bB
  rw[av]at ct;cases ct;have post:WTm.holds [] (.eq .res (.lit (.bool true))) {args:=[.list xs],res:=I (.bool true),after:=[.list xs]}=true:=by have e:WTm.value [] (.eq .res (.lit (.bool true))) {args:=[.list xs],res:=I (.bool true),after:=[.list xs]}=I (.bool (same (.bool true) (.bool true))):=rfl;unfold WTm.holds;erw[e,same_self]
  have Tg:WShape.has [] (.bool true) .bool=true:=rfl;exact⟨.inl ⟨.bool true,.bool true,[],rfl,fun ag=>rfl,.bool true,cC.mpr ⟨Tg,post⟩,fun ag=>⟨.nil,fun a h=>nomatch h⟩⟩,.of_keep fun b o e=>gf.cD _ _ (gf.base b o e),ml,.of_eq gf.gens⟩
theorem Th(tn:∀ns:List Int,ns.length≤63→∃h t,bu bl 20 54 [.v (.lst (ns.map .int))] [] 0 0=I (.v (.bool true),h,t)):PySem.Challenge.rw_tu0005_01.Holds:=H.head (Tc tn)
end
end Mine
end
end
section
namespace Mine
inductive bc where
 |root
 |go (cA:Nat) (line fit bJ:Int) (before:bc)
 deriving Inhabited
noncomputable def bc.ctorIdx(x:bc):Nat:=bc.casesOn x 0 (fun ag ag ag ag ag=>1)
noncomputable def bc.cA:bc→Nat
 | .root=>0
 | .go s _ _ _ _=>s
noncomputable def bc.line:bc→Int
 | .root=>0
 | .go _ l _ _ _=>l
noncomputable def bc.fit:bc→Int
 | .root=>2
 | .go _ _ f _ _=>f
noncomputable def bc.bJ:bc→Int
 | .root=>0
 | .go _ _ _ d _=>d
noncomputable def bc.path:bc→List Nat
 | .root=>[]
 | .go s _ _ _ b=>s::b.path
structure bM where
 bad:Nat→Nat→Int
 fit:Nat→Nat→Int
 cst:Nat→Nat→Int
 hV:Nat→Bool
 M:Nat
 A:Int
 most:Int
 cB:Int→Int
noncomputable def bM.cu(P:bM)(f g:Int):Int:=if 1<(f-g).natAbs then P.A else 0
def bM.fN(P:bM)(b:Nat)(w:bc):Int:=w.bJ+P.cst w.cA b+P.cu (P.fit w.cA b) w.fit
inductive fB(P:bM):List Nat→Nat→Int→Int→Int→Prop where
 |root:fB P [] 0 0 2 0
 |step {p a k f d b} (h:fB P p a k f d) (lt:a<b) (ok:P.bad a b≤P.most) (m7:∀t,a<t→t<b→P.hV t=false):fB P (b::p) b (k+1) (P.fit a b) (d+P.cst a b+P.cu (P.fit a b) f)
noncomputable def bM.live(P:bM)(a j:Nat):Prop:=∀t,a<t→t≤j→P.hV t=false∧P.bad a t≤10000
structure Hv(P:bM)(b:Nat)(act m8:List bc):Prop where
 old:∀bP,bP∈m8→(bP∈act∧P.bad bP.cA b≤10000∧P.hV b=false)∨∃w,w∈act∧P.bad w.cA b≤P.most∧bP= .go b (w.line+1) (P.fit w.cA b) (P.fN b w) w
 keep:∀w,w∈act→P.bad w.cA b≤10000→P.hV b=false→w∈m8
 new:∀w,w∈act→P.bad w.cA b≤P.most→∃bP,bP∈m8∧bP.cA=b∧P.cB bP.line=P.cB (w.line+1)∧∀g,bP.bJ+P.cu g bP.fit≤P.fN b w+P.cu g (P.fit w.cA b)
inductive Run(P:bM):Nat→List bc→Prop where
 |zero:Run P 0 [.root]
 |succ {j act m8} (h:Run P j act) (s:Hv P (j+1) act m8):Run P (j+1) m8
theorem Run.sound{P:bM}{j:Nat}{act:List bc}(h:Run P j act):∀w,w∈act→fB P w.path w.cA w.line w.fit w.bJ∧w.cA≤j∧P.live w.cA j:=by
 induction h with
 |zero=>intro w h;erw[dY.mp h];exact⟨.root,bE _,fun t aa ab=>absurd (ey aa ab) (qu _)⟩
 | @succ j _ _ h s aG=>
  intro w hw
  rcases s.old w hw with⟨aa,ab,aq⟩|⟨v,aa,ab,rfl⟩
  ·obtain⟨a,b,c⟩:=aG w aa;refine⟨a,rM b,fun t aM bt=>?_⟩
   rcases rW bt with l|rfl
   ·exact c t aM (kh l)
   ·exact⟨aq,ab⟩
  ·obtain⟨a,b,c⟩:=aG v aa;exact⟨.step a (uj b) ab fun t aM bt=>(c t aM (kh bt)).1,bE _,fun t aM bt=>absurd (ey aM bt) (qu _)⟩
theorem Ti{P:bM}{b:Nat}{w:bc}{d x:Int}(h:w.bJ+P.cu (P.fit w.cA b) w.fit≤d+x):P.fN b w≤d+P.cst w.cA b+x:=by unfold bM.fN;lia
theorem Run.complete{P:bM}(mono:∀a t b,a<t→t<b→P.bad a b≤P.most→P.bad a t≤10000)(gs:∀i j,P.cB i=P.cB j→P.cB (i+1)=P.cB (j+1)){j:Nat}{act:List bc}(h:Run P j act):∀{p:List Nat} {b:Nat} {k f d:Int},fB P p b k f d→b≤j→P.live b j→∃w,w∈act∧w.cA=b∧P.cB w.line=P.cB k∧∀g,w.bJ+P.cu g w.fit≤d+P.cu g f:=by
 induction h with
 |zero=>
  intro p b k f d hp ae _;cases hp with
  |root=>exact⟨.root,.head _,rfl,rfl,fun g=>dZ _⟩
  |step h lt=>exact absurd (ey lt ae) (o5 _)
 | @succ j _ _ h s aG=>
  intro p b k f d hp ae ar
  rcases rW ae with l|rfl
  ·have l:=kh l;obtain⟨w,aa,rfl,aq,ba⟩:=aG hp l fun t aM bt=>ar t aM (rM bt);obtain⟨ay,au⟩:=ar _ (uj l) (bE _);exact⟨w,s.keep w aa au ay,rfl,aq,ba⟩
  ·cases hp with
   |step aE lt ok m7=>obtain⟨w,aa,rfl,aq,ba⟩:=aG aE (kh lt) fun t aM bt=>⟨m7 t aM (uj bt),mono _ _ _ aM (uj bt) ok⟩;obtain⟨bP,cY,dt,gw,lx⟩:=s.new w aa ok;exact⟨bP,cY,dt,gw.trans (gs _ _ aq),fun g=>cZ (lx g) (kn (Ti (ba _)) _)⟩
noncomputable def sum2(p:Nat→Nat→Int):List Nat→Int
 |x::y::r=>p x y+sum2 p (y::r)
 |_=>0
noncomputable def gx(q:Nat→Nat→Nat→Int):List Nat→Int
 |x::y::z::r=>q x y z+gx q (y::z::r)
 |_=>0
noncomputable def all2(R:Nat→Nat→Prop):List Nat→Prop
 |x::y::r=>R x y∧all2 R (y::r)
 |_=>True
noncomputable def at2(p:Nat→Nat→Int):List Nat→List Nat→Int
 |a::_,l::_=>p a l
 |_,_=>0
noncomputable def m9(q:Nat→Nat→Nat→Int)(acc l:List Nat):Int:=(match acc,l with
 |a1::a2::_,aM::_=>q a2 a1 aM
 |_,_=>0)+(match acc,l with
 |a1::_,aM::bt::_=>q a1 aM bt
 |_,_=>0)
section
variable{p:Nat→Nat→Int}{q:Nat→Nat→Nat→Int}{x y z u:Nat}{r s:List Nat}
theorem Hw:sum2 p []=0:=rfl
theorem Hx:sum2 p [x]=0:=rfl
theorem Hy:sum2 p (x::y::r)=p x y+sum2 p (y::r):=rfl
theorem Hz:at2 p [] r=0:=rfl
theorem HA:at2 p (x::r) []=0:=rfl
theorem HB:at2 p (x::r) (y::s)=p x y:=rfl
theorem HC:gx q []=0:=rfl
theorem HD:gx q [x]=0:=rfl
theorem HE:gx q [x,y]=0:=rfl
theorem HF:gx q (x::y::z::r)=q x y z+gx q (y::z::r):=rfl
theorem HG:m9 q [] r=0+0:=rfl
theorem HH:m9 q [x] []=0+0:=rfl
theorem HI:m9 q (x::y::r) []=0+0:=rfl
theorem HJ:m9 q [x] [y]=0+0:=rfl
theorem HK:m9 q [x] (y::z::r)=0+q x y z:=rfl
theorem HL:m9 q (x::y::r) [z]=q y x z+0:=rfl
theorem HM:m9 q (x::y::r) (z::u::s)=q y x z+q x z u:=rfl
end
theorem Tj(p:Nat→Nat→Int):∀(l acc:List Nat),sum2 (fun x y=>p y x) (l.reverseAux acc)=sum2 p l+sum2 (fun x y=>p y x) acc+at2 p acc l:=by
 intro aT
 induction aT with
 |nil=>intro acc;cases acc<;>simp[xS,Hw,Hx,Hy,Hz,HA,HB]
 |cons x l aD=>intro acc;erw[xS,aD (x::acc)];cases l<;>cases acc<;>simp only[Hw,Hx,Hy,Hz,HA,HB]<;>lia
theorem Tn(q:Nat→Nat→Nat→Int):∀(l acc:List Nat),gx (fun x y z=>q z y x) (l.reverseAux acc)=gx q l+gx (fun x y z=>q z y x) acc+m9 q acc l:=by
 intro aT
 induction aT with
 |nil=>intro acc;rcases acc with _|⟨a,_|_⟩<;>simp[xS,HC,HD,HE,HF,HG,HH,HI,HJ,HK,HL,HM]
 |cons x l aD=>
  intro acc;erw[xS,aD (x::acc)]
  rcases l with _|⟨aM,_|⟨bt,l⟩⟩<;>rcases acc with _|⟨a,_|⟨a2,acc⟩⟩<;>simp only[HC,HD,HE,HF,HG,HH,HI,HJ,HK,HL,HM]<;>lia
theorem To(p:Nat→Nat→Int)(l:List Nat):sum2 (fun x y=>p y x) l.reverse=sum2 p l:=by have h:=Tj p l [];have e:at2 p [] l=0:=rfl;rw[e]at h;exact h.trans (ya)
theorem Tp(q:Nat→Nat→Nat→Int)(l:List Nat):gx (fun x y z=>q z y x) l.reverse=gx q l:=by have h:=Tn q l [];have e:m9 q [] l=0:=rfl;rw[e]at h;exact h.trans (ya)
theorem Tq(R:Nat→Nat→Prop):∀(l acc:List Nat),all2 R l→all2 (fun x y=>R y x) acc→(∀x y,acc.head?=I x→l.head?=I y→R x y)→all2 (fun x y=>R y x) (l.reverseAux acc):=by
 intro aT
 induction aT with
 |nil=>intro acc _ h _;exact h
 |cons x l aD=>
  intro acc aa ab aq;rw[xS];refine aD (x::acc) ?_ ?_ fun a b ay au=>?_
  ·induction l using bY with
   |nil=>trivial
   |cons y r=>exact aa.2
  ·induction acc using bY with
   |nil=>trivial
   |cons a r=>exact⟨aq a x rfl rfl,ab⟩
  ·induction l using bY with
   |nil=>injections au
   |cons y r=>injections ay;injections au;exact aa.1
theorem Tr{R:Nat→Nat→Prop}{l:List Nat}(h:all2 R l):all2 (fun x y=>R y x) l.reverse:=Tq R l [] h trivial fun ag ag e=>nomatch e
theorem HN(p:Nat→Nat→Int)(f:Nat→Nat):∀l:List Nat,sum2 p (l.map f)=sum2 (fun x y=>p (f x) (f y)) l
 |[]|[_]=>rfl
 |x::y::r=>by show p (f x) (f y)+sum2 p ((y::r).map f)=_;erw[HN p f (y::r)];rfl
theorem HO(q:Nat→Nat→Nat→Int)(f:Nat→Nat):∀l:List Nat,gx q (l.map f)=gx (fun x y z=>q (f x) (f y) (f z)) l
 |[]|[_]|[_,_]=>rfl
 |x::y::z::r=>by show q (f x) (f y) (f z)+gx q ((y::z::r).map f)=_;erw[HO q f (y::z::r)];rfl
theorem HP{R:Nat→Nat→Prop}{f:Nat→Nat}:∀{l:List Nat},all2 (fun x y=>R (f x) (f y)) l→all2 R (l.map f)
 |[],_|[_],_=>trivial
 |x::y::r,h=>⟨h.1,HP (l:=y::r) h.2⟩
theorem wc{R S:Nat→Nat→Prop}:∀{l:List Nat},(∀x y,x∈l→y∈l→R x y→S x y)→all2 R l→all2 S l
 |[],_,_|[_],_,_=>trivial
 |x::y::r,i,h=>⟨i x y (.head _) (.tail _ (.head _)) h.1,wc (l:=y::r) (fun a b aB ae=>i a b (.tail _ aB) (.tail _ ae)) h.2⟩
theorem AK{p q:Nat→Nat→Int}:∀{l:List Nat},all2 (fun x y=>p x y=q x y) l→sum2 p l=sum2 q l
 |[],_|[_],_=>rfl
 |x::y::r,h=>by show p x y+sum2 p (y::r)=q x y+sum2 q (y::r);erw[h.1,AK (l:=y::r) h.2]
theorem AL(p q:Nat→Nat→Int):∀l:List Nat,sum2 (fun x y=>p x y+q x y) l=sum2 p l+sum2 q l
 |[]|[_]=>rfl
 |x::y::r=>by show p x y+q x y+sum2 (fun x y=>p x y+q x y) (y::r)=p x y+sum2 p (y::r)+(q x y+sum2 q (y::r));erw[AL p q (y::r)];lia
noncomputable def AM(R:Nat→Nat→Nat→Prop):List Nat→Prop
 |x::y::z::r=>R x y z∧AM R (y::z::r)
 |_=>True
theorem Ts{p q:Nat→Nat→Nat→Int}:∀{l:List Nat},AM (fun x y z=>p x y z=q x y z) l→gx p l=gx q l:=by
 intro l
 induction l with
 |nil=>intro _;rfl
 |cons x l aD=>
  intro h
  induction l using bY with
  |nil=>rfl
  |cons y l=>
  induction l using bY with
  |nil=>rfl
  |cons z r=>
  show p x y z+gx p (y::z::r)=q x y z+gx q (y::z::r);erw[h.1,aD h.2]
theorem HQ{R:Nat→Nat→Nat→Prop}{S:Nat→Nat→Prop}(i:∀x y z,S x y→S y z→R x y z):∀{l:List Nat},all2 S l→AM R l
 |[],_|[_],_|[_,_],_=>trivial
 |x::y::z::r,h=>⟨i x y z h.1 h.2.1,HQ i (l:=y::z::r) h.2⟩
noncomputable def bM.ok(P:bM)(a b:Nat):Prop:=a<b∧P.bad a b≤P.most∧∀t,a<t→t<b→P.hV t=false
def bM.kI(P:bM)(l:List Nat):Int:=sum2 (fun y x=>P.cst x y) l+gx (fun z y x=>P.cu (P.fit y z) (P.fit x y)) l
noncomputable def bM.HR(P:bM):List Nat→Int
 |y::x::_=>P.fit x y
 |_=>2
set_option tactic.hygienic true in
theorem fB.kI{P:bM}(h0:∀b,0<b→P.bad 0 b≤P.most→P.cu (P.fit 0 b) 2=0){p b k f d}(h:fB P p b k f d):(p++[0]).head?=I b∧all2 (fun y x=>P.ok x y) (p++[0])∧k=p.length∧f=P.HR (p++[0])∧d=P.kI (p++[0]):=by
 induction h with
 |root=>exact⟨rfl,trivial,rfl,rfl,rfl⟩
 |step h lt ok m7 aG=>
  rename_i p a k f d b;obtain⟨cY,dt,gw,lx,tp⟩:=aG;cases hp:p++[0]with
  |nil=>rw[hp]at cY;injections cY
  |cons x r=>
   rw[hp]at cY dt lx tp
   injections cY
   have e:(b::p)++[0]=b::a::r:=by erw[xP,hp]
   erw[e];refine⟨rfl,⟨⟨lt,ok,m7⟩,dt⟩,by erw[gw];rfl,rfl,?_⟩
   induction r using bY with
   |nil=>
    have aB:a=0:=by induction p using bY with
     |nil=>injections hp;rfl
     |cons y q=>simp at hp
    subst aB;have hf:f=2:=lx;erw[tp,hf,h0 b lt ok];show(0+0:Int)+P.cst 0 b+0=P.cst 0 b+0+0
    lia
   |cons z r=>
    erw[tp,lx];show sum2 _ _+gx _ _+P.cst a b+P.cu (P.fit a b) (P.fit z a)=(P.cst a b+sum2 _ _)+(P.cu (P.fit a b) (P.fit z a)+gx _ _)
    lia
theorem fB.of{P:bM}(h0:∀b,0<b→P.bad 0 b≤P.most→P.cu (P.fit 0 b) 2=0):∀{p:List Nat} {b:Nat},(p++[0]).head?=I b→all2 (fun y x=>P.ok x y) (p++[0])→fB P p b p.length (P.HR (p++[0])) (P.kI (p++[0])):=by
 intro aT
 induction aT with
 |nil=>intro b h _;injections h;exact .root
 |cons y p aD=>
  intro b h aB
  injections h
  cases hp:p++[0]with
  |nil=>simp at hp
  |cons x r=>
   have e:(y::p)++[0]=y::x::r:=by erw[xP,hp]
   rw[e]at aB⊢;have aG:=aD (by erw[hp];rfl) (by erw[hp];exact aB.2);have st:=aG.step aB.1.1 aB.1.2.1 aB.1.2.2;have:=(st.kI h0).2.2.2.2;rw[e]at this;rw[this]at st;exact st
structure gR(P cn:bM)(g:Nat→Nat→Int)(pc:Nat→Int):Prop where
 M:cn.M=P.M
 A:cn.A=P.A
 most:cn.most=P.most
 bad:∀a b,a<b→b≤P.M→cn.bad (P.M-b) (P.M-a)=P.bad a b
 fit:∀a b,a<b→b≤P.M→cn.fit (P.M-b) (P.M-a)=P.fit a b
 hV:∀t,0<t→t<P.M→cn.hV (P.M-t)=P.hV t
 cst:∀a b,a<b→b≤P.M→P.cst a b=g a b+pc b
 HS:∀a b,a<b→b≤P.M→cn.cst (P.M-b) (P.M-a)=g a b+pc a
 HT:pc 0=0
 HU:pc P.M=0
theorem Tt(P:bM)(f g:Int):P.cu f g=P.cu g f:=by unfold bM.cu;erw[←Int.natAbs_neg (f-g),Int.neg_sub]
theorem le_head{b:Nat}:∀{r:List Nat},all2 (fun y x=>x<y) (b::r)→∀e,e∈b::r→e≤b
 |[],_,e,h=>by rw[dY]at h;exact eQ ‹_›
 |x::r,aB,e,h=>by
  rcases ec.mp h with rfl|h
  ·exact bE _
  ·exact c' (gI (le_head (b:=x) aB.2 e h) aB.1)
theorem AN{R S:Nat→Nat→Prop}:∀{l:List Nat},all2 R l→(∀e,e∈l→∀x,R e x→S e x)→all2 S l
 |[],_,_|[_],_,_=>trivial
 |x::y::r,h,i=>⟨i x (.head _) y h.1,AN (l:=y::r) h.2 fun e he=>i e (.tail _ he)⟩
theorem Tu(pc:Nat→Int):∀(b:Nat) (q:List Nat),sum2 (fun ag x=>pc x) (b::q++[0])+pc b=sum2 (fun y ag=>pc y) (b::q++[0])+pc 0:=by
 intro b aT
 induction aT generalizing b with
 |nil=>show pc 0+0+pc b=pc b+0+pc 0;lia
 |cons x q aD=>
  have:=aD x;show pc x+sum2 (fun ag x=>pc x) (x::q++[0])+pc b=pc b+sum2 (fun y ag=>pc y) (x::q++[0])+pc 0
  lia
theorem Tv{M x t:Nat}(h:t<M-x):x<M-t:=Nat.lt_sub_of_add_lt (o2 t x▸Z1 h)
theorem Tw{M y t:Nat}(aV:y≤M)(a5:t≤M)(h:M-y<t):M-t<y:=(Nat.sub_lt_iff_lt_add' a5).mpr ((Nat.sub_lt_iff_lt_add aV).mp h)
theorem gR.Tx{P cn:bM}{g:Nat→Nat→Int}{pc:Nat→Int}(m:gR P cn g pc){x y:Nat}(h:P.ok x y)(aV:y≤P.M):cn.ok (P.M-y) (P.M-x):=by refine⟨ux (ey h.1 aV) h.1,by erw[m.bad _ _ h.1 aV,m.most];exact h.2.1,fun t t1 e1=>?_⟩;have cY:=Tv e1;have HV:=ey e1 (rX ..);have dt:=Tw aV (c' HV) t1;have:=m.hV _ (gI (fx _) cY) (ey dt aV);rw[xR (c' HV)]at this;exact this.trans (h.2.2 _ cY dt)
theorem gR.pt{P cn:bM}{g:Nat→Nat→Int}{pc:Nat→Int}(m:gR P cn g pc)(h0:∀b,0<b→P.bad 0 b≤P.most→P.cu (P.fit 0 b) 2=0)(Tz:∀b,0<b→cn.bad 0 b≤cn.most→cn.cu (cn.fit 0 b) 2=0)
  {q:List Nat} {k f d:Int} (h:fB P (P.M::q) P.M k f d):∃sx,fB cn (P.M::q.reverse.map (P.M- ·)) P.M k sx d:=by
 obtain⟨_,ab,aq,_,b0⟩:=h.kI h0;have dQ:all2 (fun y x=>x<y) (P.M::(q++[0])):=AN (l:=P.M::(q++[0])) ab fun ag ag ag h=>h.1;have ic:∀e,e∈P.M::q++[0]→e≤P.M:=le_head (r:=q++[0]) dQ;have d2:all2 (fun y x=>P.ok x y∧y≤P.M) (P.M::q++[0]):=AN ab fun e he ag h=>⟨h,ic e he⟩;have pL:(P.M::q.reverse.map (P.M- ·))++[0]=(P.M::q++[0]).reverse.map (P.M- ·):=by simp
 have AO:all2 (fun y x=>cn.ok x y) ((P.M::q.reverse.map (P.M- ·))++[0]):=by erw[pL];refine HP (Tr (R:=fun y x=>cn.ok (P.M-y) (P.M-x)) (wc (fun y x ag ag h=>?_) d2));exact m.Tx h.1 h.2
 have hp:=fB.of (P:=cn) Tz (p:=P.M::q.reverse.map (P.M- ·)) (b:=P.M) rfl AO;have ai:((P.M::q.reverse.map (P.M- ·)).length:Int)=k:=by erw[aq];simp
 have hd:cn.kI ((P.M::q.reverse.map (P.M- ·))++[0])=d:=by
  erw[b0,pL];unfold bM.kI;erw[HN,HO];have ay:sum2 (fun y x=>cn.cst (P.M-x) (P.M-y)) (P.M::q++[0]).reverse=sum2 (fun y x=>P.cst x y) (P.M::q++[0]):=by
   erw[To (fun y x=>cn.cst (P.M-y) (P.M-x)),AK (q:=fun y x=>g x y+pc x) (wc (fun y x ag ag h=>m.HS _ _ h.1.1 h.2) d2),AK (p:=fun y x=>P.cst x y) (q:=fun y x=>g x y+pc y) (wc (fun y x ag ag h=>m.cst _ _ h.1.1 h.2) d2),AL (fun y x=>g x y) (fun ag x=>pc x),AL (fun y x=>g x y) (fun y ag=>pc y)]
   have:=Tu pc P.M q;rw[m.HT,m.HU]at this
   lia
  have au:gx (fun z y x=>cn.cu (cn.fit (P.M-y) (P.M-z)) (cn.fit (P.M-x) (P.M-y))) (P.M::q++[0]).reverse=gx (fun z y x=>P.cu (P.fit y z) (P.fit x y)) (P.M::q++[0]):=by erw[Tp (fun z y x=>cn.cu (cn.fit (P.M-y) (P.M-x)) (cn.fit (P.M-z) (P.M-y)))];refine Ts (HQ (S:=fun y x=>P.ok x y∧y≤P.M) (fun z y x aa ab=>?_) d2);erw[m.fit _ _ aa.1.1 aa.2,m.fit _ _ ab.1.1 ab.2,Tt P (P.fit y z)];unfold bM.cu;erw[m.A]
  erw[ay,au]
 rw[ai,hd]at hp;exact⟨_,hp⟩
def bestOf(w:bc)(ws:List bc):bc:=ws.foldl (fun b w=>if w.bJ<b.bJ then w else b) w
noncomputable def fC(cP L:Int)(s:bc×Int)(w:bc):bc×Int:=if((L≤w.line-cP∧w.line-cP<s.2)∨(s.2<w.line-cP∧w.line-cP≤L))∨(w.line-cP=s.2∧w.bJ<s.1.bJ)then(w,w.line-cP)else s
def picked(ws:List bc)(L:Int):bc×Int:=if L=0 then(bestOf (ws.headD .root) ws,0)else ws.foldl (fC (bestOf (ws.headD .root) ws).line L) (bestOf (ws.headD .root) ws,0)
theorem TA:∀(ws pre:List bc) (b:bc),b∈pre→(∀w,w∈pre→b.bJ≤w.bJ∧(w.bJ=b.bJ→b.line≤w.line))→(pre++ws).Pairwise (fun a b=>a.line≤b.line)→bestOf b ws∈pre++ws∧∀w,w∈pre++ws→(bestOf b ws).bJ≤w.bJ∧(w.bJ=(bestOf b ws).bJ→(bestOf b ws).line≤w.line):=by
 intro aT
 induction aT with
 |nil=>intro pre b ae h _;rw[ei];exact⟨ae,h⟩
 |cons v ws aD=>
  intro pre b ae h aL;have e:pre++v::ws=(pre++[v])++ws:=by simp
  have hle:∀w,w∈pre→w.line≤v.line:=fun w hw=>(CV.mp aL).2.2 w hw v (.head _);rw[e]at aL⊢;show bestOf (if v.bJ<b.bJ then v else b) ws∈_∧∀w,w∈_→(bestOf (if v.bJ<b.bJ then v else b) ws).bJ≤_∧_;refine aD (pre++[v]) _ ?_ (fun w hw=>?_) aL
  ·refine Mine.eT (fun h=>?_) (fun h=>?_)<;>simp[ae]
  ·rcases dR.mp hw with hw|hw
   ·refine bC (fun aa ab=>?_) (h w hw);refine Mine.eT (fun h=>?_) (fun h=>?_)
    ·exact⟨Mu ‹_› ‹_›,fun e=>by lia⟩
    ·exact⟨aa,ab⟩
   ·rw[dY]at hw;subst hw;have:=hle b ae;refine Mine.eT (fun h=>?_) (fun h=>?_)
    ·exact⟨dZ _,fun ag=>dZ _⟩
    ·exact⟨Df ‹_›,fun ag=>this⟩
theorem AP{ws:List bc}(aA:ws≠[])(aL:ws.Pairwise (fun a b=>a.line≤b.line)):bestOf (ws.headD .root) ws∈ws∧∀w,w∈ws→(bestOf (ws.headD .root) ws).bJ≤w.bJ∧(w.bJ=(bestOf (ws.headD .root) ws).bJ→(bestOf (ws.headD .root) ws).line≤w.line):=by
 induction ws using bY with
 |nil=>exact absurd rfl aA
 |cons v r=>
  have e:bestOf ((v::r).headD .root) (v::r)=bestOf v r:=by show bestOf (if v.bJ<v.bJ then v else v) r=_;erw[if_neg (LY _)]
  erw[e];exact TA r [v] v (.head _) (fun w h=>by rw[dY]at h;subst h;exact⟨dZ _,fun ag=>dZ _⟩) aL
noncomputable def m'(L HW f:Int):Prop:=(L≤f∧f<HW)∨(HW<f∧f≤L)
noncomputable def tq(L f:Int):Prop:=(0≤f∧f≤L)∨(L≤f∧f≤0)
theorem HX{L f:Int}(h:m' L f f):False:=h.elim (fun h=>LY _ h.2) fun h=>LY _ h.1
theorem TB{L a b c:Int}(h:m' L a b)(k:m' L b c):m' L a c:=by
 rcases h with⟨aa,ab⟩|⟨aa,ab⟩<;>rcases k with⟨dH,ft⟩|⟨dH,ft⟩
 ·exact .inl ⟨dH,uq ft ab⟩
 ·exact absurd (oZ dH ft) (ez.mpr aa)
 ·exact absurd (oZ ft ab) (ez.mpr dH)
 ·exact .inr ⟨uq aa dH,ft⟩
theorem TC{L a b:Int}(h:tq L a)(k:m' L a b):tq L b:=by
 rcases k with⟨dH,ft⟩|⟨dH,ft⟩
 ·rcases h with⟨_,ab⟩|⟨_,ab⟩
  ·exact absurd (oZ ft ab) (ez.mpr dH)
  ·exact .inr ⟨dH,cZ (jO ft) ab⟩
 ·rcases h with⟨aa,_⟩|⟨aa,_⟩
  ·exact .inl ⟨cZ aa (jO dH),ft⟩
  ·exact absurd (oZ dH ft) (ez.mpr aa)
theorem TF{L a b:Int}(h:tq L a)(k:tq L b)(n:¬m' L a b)(m:¬m' L b a):a=b:=by
 rcases Int.lt_trichotomy a b with l|l|l
 ·rcases k with⟨_,k⟩|⟨dH,k⟩
  ·exact absurd (.inr ⟨l,k⟩) n
  ·rcases h with⟨h,ab⟩|⟨h,_⟩
   ·exact absurd (mB h l) (ez.mpr k)
   ·exact absurd (.inl ⟨h,l⟩) m
 ·exact l
 ·rcases h with⟨_,h⟩|⟨aa,h⟩
  ·exact absurd (.inr ⟨l,h⟩) m
  ·rcases k with⟨k,ft⟩|⟨k,_⟩
   ·exact absurd (mB k l) (ez.mpr h)
   ·exact absurd (.inl ⟨k,l⟩) n
structure AQ(ws all:List bc)(cP L:Int)(s:bc×Int):Prop where
 mem:s.1∈all
 line:s.1.line-cP=s.2
 HY:tq L s.2
 least:∀w,w∈ws→w.line-cP=s.2→s.1.bJ≤w.bJ
 near:∀w,w∈ws→¬m' L s.2 (w.line-cP)
theorem TG{all:List bc}{cP L:Int}:∀(ws pre:List bc) (s:bc×Int),(∀w,w∈ws→w∈all)→AQ pre all cP L s→AQ (pre++ws) all cP L (ws.foldl (fC cP L) s):=by
 intro aT
 induction aT with
 |nil=>intro pre s _ h;erw[ei];exact h
 |cons v ws aD=>
  intro pre s AR h;erw[show pre++v::ws=(pre++[v])++ws from(eR pre [v] ws).symm];refine aD (pre++[v]) (fC cP L s v) (fun w hw=>AR w (.tail _ hw)) ?_;obtain⟨aa,ab,aq,ba,b0⟩:=h;have hm:∀{Q:bc→Prop},(∀w,w∈pre→Q w)→Q v→∀w,w∈pre++[v]→Q w:=fun a b w hw=>(dR.mp hw).elim (a w) fun hw=>dY.mp hw▸b;refine bZ (fun aA:m' L s.2 (v.line-cP)=>?_) (fun aA=>?_)
  ·erw[show fC cP L s v=(v,v.line-cP)from if_pos (.inl aA)];exact⟨AR v (.head _),rfl,TC aq aA,hm (fun w hw e=>absurd (by erw[e];exact aA) (b0 w hw)) fun ag=>dZ _,hm (fun w hw k=>b0 w hw (TB aA k)) HX⟩
  ·refine bZ (fun ah:v.line-cP=s.2∧v.bJ<s.1.bJ=>?_) (fun ah=>?_)
   ·erw[show fC cP L s v=(v,v.line-cP)from if_pos (.inr ah)];refine bC (fun ef e6=>?_) (ah);refine⟨AR v (.head _),rfl,by erw[ef];exact aq,hm (fun w hw e=>cZ (jO e6) (ba w hw (e.trans ef))) fun ag=>dZ _,hm (fun w hw=>?_) HX⟩;erw[ef];exact b0 w hw
   ·erw[show fC cP L s v=s from if_neg fun h=>h.elim aA ah];exact⟨aa,ab,aq,hm ba fun e=>ez.mp fun l=>ah ⟨e,l⟩,hm b0 aA⟩
theorem tr{ws:List bc}{L:Int}(cv:L≠0)(aA:ws≠[])(aL:ws.Pairwise (fun a b=>a.line≤b.line)):AQ ws ws (bestOf (ws.headD .root) ws).line L (picked ws L):=by
 unfold picked;erw[if_neg cv];refine TG ws [] _ (fun ag h=>h) ⟨(AP aA aL).1,rY _,?_,fun ag h=>(nomatch h),fun ag h=>(nomatch h)⟩;refine eF (Int.le_total 0 L) (fun h=>?_) (fun h=>?_)
 ·exact .inl ⟨dZ 0,h⟩
 ·exact .inr ⟨h,dZ 0⟩
def HZ(ws fO:List bc):Prop:=∀w,w∈ws→∃bP,bP∈fO∧bP.line=w.line∧bP.bJ≤w.bJ
theorem TH{ws fO:List bc}{L:Int}(cv:L≠0)(aA:ws≠[])(gg:fO≠[])(aL:ws.Pairwise (fun a b=>a.line≤b.line))(ra:fO.Pairwise (fun a b=>a.line≤b.line))(a:HZ ws fO)(b:HZ fO ws):
  (picked ws L).2=(picked fO L).2∧(picked ws L).1.line=(picked fO L).1.line∧(picked ws L).1.bJ=(picked fO L).1.bJ:=by
 have p:=tr cv aA aL;have dp:=tr cv gg ra;have e:(bestOf (fO.headD .root) fO).line=(bestOf (ws.headD .root) ws).line:=by refine bC (fun m ae=>?_) (AP aA aL);refine bC (fun h8 bf=>?_) (AP gg ra);obtain⟨x,c2,x2,x3⟩:=a _ m;obtain⟨y,eU,fq,gq⟩:=b _ h8;refine bC (fun ef e6=>?_) (bf x c2);refine bC (fun fj vd=>?_) (ae y eU);have au:=cZ fj gq;exact rN (x2▸e6 (rN (cZ x3 au) ef)) (fq▸vd (rN (cZ gq (cZ ef x3)) fj))
 replace dp:=e▸dp;generalize (bestOf (ws.headD .root) ws).line=cP at p dp;generalize picked ws L=s at p⊢;generalize picked fO L=s' at dp⊢;obtain⟨u,rb,vZ,TJ⟩:=a _ p.mem;obtain⟨v,v1,v2,TK⟩:=b _ dp.mem;have vi:u.line-cP=s.2:=by erw[vZ];exact p.line
 have ev:v.line-cP=s'.2:=by erw[v2];exact dp.line
 have au:=TF p.HY dp.HY (ev▸p.near v v1) (vi▸dp.near u rb);refine⟨au,?_,rN (cZ (p.least v v1 (ev.trans au.symm)) TK) (cZ (dp.least u rb (vi.trans au)) TJ)⟩;have:=p.line.trans (au.trans dp.line.symm);erw[←Int.sub_add_cancel s.1.line cP,this,Int.sub_add_cancel]
structure Ent where
 d:Int
 w:bc
 ln:Int
structure dg where
 kept:List bc
 best:List (Int×Ent)
 least:List (Int×Int)
noncomputable def lk{α:Type}(k:Int):List (Int×α)→Option α
 |[]=>J
 |(m,x)::r=>if m=k then I x else lk k r
noncomputable def fl{α:Type}(k:Int)(x:α):List (Int×α)→List (Int×α)
 |[]=>[(k,x)]
 |(m,y)::r=>if m=k then(m,x)::r else(m,y)::fl k x r
theorem AS{α:Type}{k m:Int}{x y:α}{r:List (Int×α)}:fl k x ((m,y)::r)=if m=k then(m,x)::r else(m,y)::fl k x r:=rfl
theorem nc{α:Type}{k j:Int}{x:α}:∀{l:List (Int×α)},lk j (fl k x l)=if k=j then I x else lk j l:=by
 intro l
 induction l with
 |nil=>rfl
 |cons dA r aD=>
  obtain⟨m,y⟩:=dA;erw[AS];refine bZ (fun h:m=k=>?_) (fun h=>?_)
  ·subst h;erw[if_pos rfl];show(if m=j then I x else lk j r)=if m=j then I x else if m=j then I y else lk j r
   split<;>rfl
  ·erw[if_neg h];show(if m=j then I y else lk j (fl k x r))=if k=j then I x else if m=j then I y else lk j r;erw[aD]
   split
   ·split
    ·lia
    ·rfl
   ·rfl
theorem H0{α:Type}{k:Int}:∀{l:List (Int×α)},k∈l.map (·.1)↔ ∃x,lk k l=I x:=by
 intro aT
 induction aT with
 |nil=>exact⟨fun h=>(nomatch h),fun h=>h.elim fun ag e=>(nomatch e)⟩
 |cons dA r aD=>
  obtain⟨m,y⟩:=dA;show k∈m::r.map (·.1)↔ ∃x,(if m=k then I y else lk k r)=I x;erw[ec,aD];refine bZ (fun h:m=k=>?_) (fun h=>?_)
  ·subst h;simp
  ·erw[if_neg h];simp[Ne.symm h]
def bM.over(P:bM)(b:Nat)(w:bc):Bool:=U (10000<P.bad w.cA b)||P.hV b
def bM.key(P:bM)(b:Nat)(w:bc):Int:=4*P.cB (w.line+1)+P.fit w.cA b
def gS(P:bM)(ig:Bool)(n b i:Nat)(w:bc)(s:dg):Bool:=P.over b w&&(ig&&(s.kept.isEmpty&&(s.best.isEmpty&&U (i+1=n))))
noncomputable def put(P:bM)(b:Nat)(w:bc)(d:Int)(s:dg):dg:=if((lk (P.key b w) s.best).all fun o=>decide (d≤o.d))then⟨s.kept,fl (P.key b w) ⟨d,w,w.line+1⟩ s.best,fl (P.cB (w.line+1)) (min d ((lk (P.cB (w.line+1)) s.least).getD d)) s.least⟩else s
noncomputable def turn(P:bM)(ig:Bool)(n b i:Nat)(w:bc)(s:dg):dg:=let s1:dg:=if P.over b w then s else⟨s.kept++[w],s.best,s.least⟩
 if U (P.most<P.bad w.cA b)&& !gS P ig n b i w s then s1 else put P b w (if gS P ig n b i w s then w.bJ else P.fN b w) s1
noncomputable def ih(P:bM)(ig:Bool)(n b:Nat):Nat→List bc→dg→dg
 |_,[],s=>s
 |i,w::r,s=>ih P ig n b (i+1) r (turn P ig n b i w s)
def iF(P:bM)(b:Nat)(s:dg)(key:Int):Option bc:=(lk key s.best).bind fun o=>if o.d≤(lk (key/4) s.least).getD 0+P.A then I (.go b o.ln (key%4) o.d o.w)else J
def fin(P:bM)(b:Nat)(s:dg):List bc:=s.kept++(sortI (s.best.map (·.1))).filterMap (iF P b s)
def ly(P:bM)(ig:Bool)(b:Nat)(act:List bc):List bc:=fin P b (ih P ig act.length b 0 act ⟨[],[],[]⟩)
structure wd(P:bM)(b:Nat)(pre:List bc)(s:dg):Prop where
 kept:s.kept=pre.filter fun w=> !P.over b w
 pS:∀key o,lk key s.best=I o→∃w,w∈pre∧P.bad w.cA b≤P.most∧o=⟨P.fN b w,w,w.line+1⟩∧key=P.key b w
 all:∀w,w∈pre→P.bad w.cA b≤P.most→∃o,lk (P.key b w) s.best=I o∧o.d≤P.fN b w
 low:∀key o,lk key s.best=I o→∃v,lk (key/4) s.least=I v∧v≤o.d
 tu:∀g v,lk g s.least=I v→∃key o,lk key s.best=I o∧key/4=g∧o.d=v
theorem TL(P:bM)(n b i:Nat)(w:bc)(s:dg):turn P false n b i w s=if P.most<P.bad w.cA b then(if P.over b w then s else⟨s.kept++[w],s.best,s.least⟩)else put P b w (P.fN b w) (if P.over b w then s else⟨s.kept++[w],s.best,s.least⟩):=by
 have:gS P false n b i w s=false:=by simp[gS]
 unfold turn;erw[this];refine bZ (fun h:P.most<P.bad w.cA b=>?_) (fun h=>?_)<;>simp[h]
theorem q5{g f:Int}(h:0≤f∧f≤3):(4*g+f)/4=g∧(4*g+f)%4=f:=by have ae:f<4:=mB h.2 (by decide);erw[rP,Int.add_mul_ediv_left f g (by decide),Int.add_mul_emod_self_left,Int.ediv_eq_zero_of_lt h.1 ae,ko,Int.emod_eq_of_lt h.1 ae];exact⟨rfl,rfl⟩
theorem H2{P:bM}(ax:0≤P.A)(f g:Int):0≤P.cu f g∧P.cu f g≤P.A:=by
 unfold bM.cu;refine Mine.eT (fun h=>?_) (fun h=>?_)
 ·exact⟨ax,dZ _⟩
 ·exact⟨dZ _,ax⟩
theorem TM{P:bM}{b:Nat}{pre:List bc}{w:bc}{s:dg}{k:List bc}(hf:∀a b,0≤P.fit a b∧P.fit a b≤3)(ai:k=(pre++[w]).filter fun w=> !P.over b w)(ok:P.bad w.cA b≤P.most)(h:wd P b pre s):wd P b (pre++[w]) (put P b w (P.fN b w) ⟨k,s.best,s.least⟩):=by
 have aK:P.key b w/4=P.cB (w.line+1):=(q5 (hf w.cA b)).1;unfold put
 dsimp only
 split
 ·rename_i ah;have ah:∀o,lk (P.key b w) s.best=I o→P.fN b w≤o.d:=fun o e=>by rw[e]at ah;simpa using ah
  have hm:∀v,lk (P.cB (w.line+1)) s.least=I v→v=((lk (P.cB (w.line+1)) s.least).getD (P.fN b w)):=fun v e=>by erw[e];rfl
  refine⟨ai,fun key o e=>?_,fun v aJ ae=>?_,fun key o e=>?_,fun g v e=>?_⟩
  ·dsimp only at e
   rw[nc]at e
   split at e
   ·rename_i au
    injections e
    exact⟨w,by simp,ok,rfl,au.symm⟩
   ·obtain⟨v,a,b,c⟩:=h.pS key o e;exact⟨v,by simp[a],b,c⟩
  ·dsimp only
   erw[nc]
   split
   ·rename_i au;refine⟨_,rfl,?_⟩;refine eF (dR.mp aJ) (fun aJ=>?_) (fun aJ=>?_)
    ·obtain⟨o,a,c⟩:=h.all v aJ ae;rw[←au]at a;exact cZ (ah o a) c
    ·rw[dY]at aJ;subst aJ;exact dZ _
   ·rename_i au;refine eF (dR.mp aJ) (fun aJ=>?_) (fun aJ=>?_)
    ·exact h.all v aJ ae
    ·rw[dY]at aJ;subst aJ;exact absurd rfl au
  ·dsimp only at e⊢
   rw[nc]at e⊢
   split at e
   ·rename_i au
    injections e
    erw[←au,aK,if_pos rfl];exact⟨_,rfl,Int.min_le_left ..⟩
   ·obtain⟨v,a,c⟩:=h.low key o e
    split
    ·rename_i bo;erw[bo,a];exact⟨_,rfl,cZ (Int.min_le_right ..) c⟩
    ·exact⟨v,a,c⟩
  ·dsimp only at e⊢
   rw[nc]at e
   split at e
   ·rename_i au
    injections e
    refine bZ (fun dQ:P.fN b w≤(lk (P.cB (w.line+1)) s.least).getD (P.fN b w)=>?_) (fun dQ=>?_)
    ·exact⟨P.key b w,_,by erw[nc,if_pos rfl],by erw[aK,au],by erw[Int.min_eq_left dQ]⟩
    ·cases ar:lk (P.cB (w.line+1)) s.least with
     |none=>rw[ar]at dQ;exact absurd (dZ _) dQ
     |some u=>
      rw[ar]at dQ;obtain⟨key,o,a,c,d⟩:=h.tu _ u ar;refine⟨key,o,?_,c.trans au,by erw[d];show u=min _ u;erw[Int.min_eq_right (by simpa using Int.le_of_not_le dQ)]⟩;rw[nc,if_neg ?_]
      ·exact a
      ·intro cg;rw[←cg]at a;exact dQ (d▸ah o a)
   ·obtain⟨key,o,a,c,d⟩:=h.tu g v e;refine⟨key,o,?_,c,d⟩;rw[nc,if_neg ?_]
    ·exact a
    ·rintro rfl;rename_i au;exact au (by erw[←c,aK])
 ·rename_i ah;refine⟨ai,fun key o e=>?_,fun v aJ ae=>?_,h.low,h.tu⟩
  ·obtain⟨v,a,b,c⟩:=h.pS key o e;exact⟨v,by simp[a],b,c⟩
  ·refine eF (dR.mp aJ) (fun aJ=>?_) (fun aJ=>?_)
   ·exact h.all v aJ ae
   ·rw[dY]at aJ;subst aJ;cases ar:lk (P.key b v) s.best with
    |none=>rw[ar]at ah;exact absurd rfl ah
    |some o=>rw[ar]at ah;refine⟨o,rfl,?_⟩;simp at ah;exact jO ah
theorem AU{P:bM}{n b:Nat}(hf:∀a b,0≤P.fit a b∧P.fit a b≤3):∀(ws pre:List bc) (i:Nat) (s:dg),wd P b pre s→wd P b (pre++ws) (ih P false n b i ws s):=by
 intro aT
 induction aT with
 |nil=>intro pre i s h;erw[ei];exact h
 |cons w ws aD=>
  intro pre i s h;have e:pre++w::ws=(pre++[w])++ws:=by simp
  erw[e];refine aD (pre++[w]) (i+1) _ ?_;have ai:(if P.over b w then s else⟨s.kept++[w],s.best,s.least⟩:dg)=⟨(pre++[w]).filter fun w=> !P.over b w,s.best,s.least⟩:=by erw[List.filter_append,←h.kept];cases aO:P.over b w<;>simp[aO]
  erw[TL,ai]
  split
  ·rename_i ah;refine⟨rfl,fun key o e=>?_,fun v aJ ae=>?_,h.low,h.tu⟩
   ·obtain⟨v,a,b,c⟩:=h.pS key o e;exact⟨v,by simp[a],b,c⟩
   ·rcases dR.mp aJ with aJ|aJ
    ·exact h.all v aJ ae
    ·rw[dY]at aJ;subst aJ;exact absurd ah (absurd ‹_› (ez.mpr ‹_›))
  ·rename_i ah;exact TM hf rfl (Df ‹_›) h
theorem TN{a x:Int}:∀{l:List Int},x∈insI a l↔x=a∨x∈l:=by
 intro aT
 induction aT with
 |nil=>show x∈[a]↔_;simp
 |cons b r aD=>
  erw[DT];refine Mine.eT (fun h=>?_) (fun h=>?_)
  ·simp
  ·rw[ec,aD,ec]
   constructor<;>(rintro(h|h|h)<;>simp[h])
theorem H3{x:Int}:∀{l:List Int},x∈sortI l↔x∈l:=by
 intro aT
 induction aT with
 |nil=>exact Iff.rfl
 |cons a r aD=>rw[DU,TN,aD,ec]
theorem tv{P:bM}{b:Nat}{s:dg}{w:bc}:w∈fin P b s↔w∈s.kept∨∃key o,lk key s.best=I o∧o.d≤(lk (key/4) s.least).getD 0+P.A∧w= .go b o.ln (key%4) o.d o.w:=by
 unfold fin;erw[dR,qr];refine or_congr Iff.rfl ⟨fun h=>?_,fun h=>?_⟩
 ·obtain⟨key,aa,ab⟩:=h;unfold iF at ab;cases ar:lk key s.best with
  |none=>rw[ar]at ab;injections ab
  |some o=>
   rw[ar]at ab;refine bZ (fun ah:o.d≤(lk (key/4) s.least).getD 0+P.A=>?_) (fun ah=>?_)
   ·refine⟨key,o,ar,ah,?_⟩;have ab:(if o.d≤(lk (key/4) s.least).getD 0+P.A then I (bc.go b o.ln (key%4) o.d o.w)else J)=I w:=ab;rw[if_pos ah]at ab
    injections ab;rfl
   ·have ab:(if o.d≤(lk (key/4) s.least).getD 0+P.A then I (bc.go b o.ln (key%4) o.d o.w)else J)=I w:=ab;rw[if_neg ah]at ab;injections ab
 ·obtain⟨key,o,aa,ab,aq⟩:=h;refine⟨key,H3.mpr (H0.mpr ⟨o,aa⟩),?_⟩;unfold iF;erw[aa];show(if _ then I _ else J)=_;erw[if_pos ab,aq]
theorem TO{P:bM}{b:Nat}{act:List bc}(hf:∀a b,0≤P.fit a b∧P.fit a b≤3)(ax:0≤P.A):Hv P b act (ly P false b act):=by
 have h:=AU (P:=P) (n:=act.length) (b:=b) hf act [] 0 ⟨[],[],[]⟩ ⟨rfl,fun ag ag e=>(nomatch e),fun ag e=>(nomatch e),fun ag ag e=>(nomatch e),fun ag ag e=>(nomatch e)⟩;rw[nQ]at h;have tx:∀w:bc,P.key b w/4=P.cB (w.line+1)∧P.key b w%4=P.fit w.cA b:=fun w=>q5 (hf w.cA b);refine⟨fun bP hw=>?_,fun w hw aa ab=>tv.mpr (.inl ?_),fun w hw ok=>?_⟩
 ·rcases tv.mp hw with ai|⟨key,o,a,c,e⟩
  ·rw[h.kept]at ai;refine bC (fun m aO=>?_) (CU.mp ai);have:P.over b bP=false:=by simpa using aO
   unfold bM.over at this;refine bC (fun a0 cK=>?_) (aac.mp this);exact .inl ⟨m,ez.mp (of_decide_eq_false a0),cK⟩
  ·obtain⟨v,cY,dt,gw,lx⟩:=h.pS key o a;subst gw lx;exact .inr ⟨v,cY,dt,by erw[e,(tx v).2]⟩
 ·erw[h.kept];refine CU.mpr ⟨hw,?_⟩;unfold bM.over;erw[ab,decide_eq_false (ez.mpr aa)];rfl
 ·obtain⟨o,a,c⟩:=h.all w hw ok;obtain⟨v,aM,bt⟩:=h.low _ o a;obtain⟨ie,_,_,ay,dH⟩:=h.pS _ o a;have H4:∀key o ie,o=(⟨P.fN b ie,ie,ie.line+1⟩:Ent)→key=P.key b ie→P.cB o.ln=key/4:=fun key o ie e k=>by erw[e,k,(tx ie).1]
  refine bZ (fun ah:o.d≤v+P.A=>?_) (fun ah=>?_)
  ·refine⟨_,tv.mpr (.inr ⟨_,o,a,by erw[aM];exact ah,rfl⟩),rfl,(H4 _ _ _ ay dH).trans (tx w).1,fun g=>?_⟩;show o.d+P.cu g (P.key b w%4)≤_;erw[(tx w).2];exact kn c _
  ·obtain⟨H5,br,gT,dr,sv⟩:=h.tu _ v aM;obtain⟨oz,_,_,au,ft⟩:=h.pS _ br gT;refine⟨_,tv.mpr (.inr ⟨H5,br,gT,by erw[dr,aM,sv];exact CW ax,rfl⟩),rfl,(H4 _ _ _ au ft).trans (dr.trans (tx w).1),fun g=>?_⟩;show br.d+P.cu g (H5%4)≤_;exact cZ (kj (nR sv) (H2 ax _ _).2) (cZ (jO (o1.mp ah)) (cZ c (CW (H2 ax _ _).1)))
structure gU(c:Int)(w bP:bc):Prop where
 cA:bP.cA=w.cA
 line:bP.line=w.line
 fit:bP.fit=w.fit
 path:bP.path=w.path
 bJ:bP.bJ=w.bJ+c
inductive dn{α β:Type}(R:α→β→Prop):List α→List β→Prop where
 |nil:dn R [] []
 |cons {a b l m} (h:R a b) (t:dn R l m):dn R (a::l) (b::m)
theorem dn.snoc{α β:Type}{R:α→β→Prop}{l:List α}{m:List β}{a:α}{b:β}(h:dn R l m)(r:R a b):dn R (l++[a]) (m++[b]):=by
 induction h with
 |nil=>exact .cons r .nil
 |cons h _ aG=>exact .cons h aG
theorem dn.length{α β:Type}{R:α→β→Prop}{l:List α}{m:List β}(h:dn R l m):m.length=l.length:=by
 induction h with
 |nil=>rfl
 |cons _ _ aG=>simp[aG]
theorem dn.app{α β:Type}{R:α→β→Prop}{l:List α}{m:List β}{di:List α}{h8:List β}(h:dn R l m)(r:dn R di h8):dn R (l++di) (m++h8):=by
 induction h with
 |nil=>exact r
 |cons h _ aG=>exact .cons h aG
structure we(c:Int)(x y:Int×Ent):Prop where
 key:y.1=x.1
 d:y.2.d=x.2.d+c
 w:y.2.w.path=x.2.w.path
 ln:y.2.ln=x.2.ln
structure kJ(c:Int)(s s':dg):Prop where
 kept:dn (gU c) s.kept s'.kept
 best:dn (we c) s.best s'.best
 least:dn (fun x y=>y.1=x.1∧y.2=x.2+c) s.least s'.least
 emp:s.best=[]→s.least=[]
theorem wg{α β:Type}{R:Int×α→Int×β→Prop}(ai:∀x y,R x y→y.1=x.1){k:Int}{l:List (Int×α)}{m:List (Int×β)}(h:dn R l m):(lk k l=J∧lk k m=J)∨∃x y,lk k l=I x∧lk k m=I y∧R (k,x) (k,y):=by
 induction h with
 |nil=>exact .inl ⟨rfl,rfl⟩
 | @cons a b l m r _ aG=>
  obtain⟨i,x⟩:=a;obtain⟨j,y⟩:=b;have e:j=i:=ai _ _ r;subst e;refine bZ (fun h:j=k=>?_) (fun h=>?_)
  ·subst h;exact .inr ⟨x,y,if_pos rfl,if_pos rfl,r⟩
  ·rcases aG with⟨a,b⟩|⟨u,v,a,b,c⟩
   ·exact .inl ⟨(if_neg h).trans a,(if_neg h).trans b⟩
   ·exact .inr ⟨u,v,(if_neg h).trans a,(if_neg h).trans b,c⟩
theorem H6{α β:Type}{R:Int×α→Int×β→Prop}(ai:∀x y,R x y→y.1=x.1){k:Int}{x:α}{y:β}(r:R (k,x) (k,y)){l:List (Int×α)}{m:List (Int×β)}(h:dn R l m):dn R (fl k x l) (fl k y m):=by
 induction h with
 |nil=>exact .cons r .nil
 | @cons a b l m q t aG=>
  obtain⟨i,u⟩:=a;obtain⟨j,v⟩:=b;have e:j=i:=ai _ _ q;subst e;show dn R (if j=k then(j,x)::l else(j,u)::fl k x l) (if j=k then(j,y)::m else(j,v)::fl k y m)
  split
  ·rename_i e;subst e;exact .cons r t
  ·exact .cons q aG
theorem H7(d x c:Int):min (d+c) (x+c)=min d x+c:=by lia
theorem H8{P:bM}{b:Nat}{c jz d:Int}{w bP:bc}{s s':dg}(hw:gU jz w bP)(h:kJ c s s'):kJ c (put P b w d s) (put P b bP (d+c) s'):=by
 have ju:P.key b bP=P.key b w:=by unfold bM.key;erw[hw.line,hw.cA]
 have hS:∀x y,we c x y→y.1=x.1:=fun ag ag h=>h.key;have q2:∀x y:Int×Int,(y.1=x.1∧y.2=x.2+c)→y.1=x.1:=fun ag ag h=>h.1;have fit:kJ c ⟨s.kept,fl (P.key b w) ⟨d,w,w.line+1⟩ s.best,fl (P.cB (w.line+1)) (min d ((lk (P.cB (w.line+1)) s.least).getD d)) s.least⟩ ⟨s'.kept,fl (P.key b w) ⟨d+c,bP,bP.line+1⟩ s'.best,fl (P.cB (w.line+1)) (min (d+c) ((lk (P.cB (w.line+1)) s'.least).getD (d+c))) s'.least⟩:=by
  have a8:we c (P.key b w,(⟨d,w,w.line+1⟩:Ent)) (P.key b w,⟨d+c,bP,bP.line+1⟩):=⟨rfl,rfl,hw.path,by show bP.line+1=w.line+1;erw[hw.line]⟩
  have b3:(fun x y:Int×Int=>y.1=x.1∧y.2=x.2+c) (P.cB (w.line+1),min d ((lk (P.cB (w.line+1)) s.least).getD d)) (P.cB (w.line+1),min (d+c) ((lk (P.cB (w.line+1)) s'.least).getD (d+c))):=by
   refine⟨rfl,?_⟩;show min (d+c) _=min d _+c
   rcases wg (k:=P.cB (w.line+1)) q2 h.least with⟨a,b⟩|⟨x,y,a,b,_,r⟩
   ·erw[a,b];exact H7 d d c
   ·erw[a,b];have r:y=x+c:=r;subst r;exact H7 d x c
  refine⟨h.kept,H6 hS a8 h.best,H6 q2 b3 h.least,fun e=>?_⟩
  ·dsimp only at e
   cases ae:s.best with
   |nil=>rw[ae]at e;injections e
   |cons p r=>
    rw[ae]at e;have e:(if p.1=P.key b w then(p.1,_)::r else(p.1,p.2)::fl (P.key b w) _ r)=[]:=e
    split at e<;>injections e
 unfold put;erw[ju,hw.line]
 rcases wg (k:=P.key b w) hS h.best with⟨a,e⟩|⟨x,y,a,e,r⟩
 ·erw[a,e];rw[hw.line]at fit;exact fit
 ·have hd:y.d=x.d+c:=r.d;erw[a,e];refine bZ (fun ah:d≤x.d=>?_) (fun ah=>?_)
  ·erw[if_pos (show(I x).all (fun o=>decide (d≤o.d))=true from decide_eq_true ah),if_pos (show(I y).all (fun o=>decide (d+c≤o.d))=true from decide_eq_true (hd▸kn ah c))];rw[hw.line]at fit;exact fit
  ·erw[if_neg (show¬(I x).all (fun o=>decide (d≤o.d))=true from fun h=>ah (of_decide_eq_true h)),if_neg (show¬(I y).all (fun o=>decide (d+c≤o.d))=true from fun h=>ah (aak (hd▸of_decide_eq_true h)))];exact h
def oA(P:bM)(b:Nat)(w:bc)(s:dg):dg:=if P.over b w then s else⟨s.kept++[w],s.best,s.least⟩
theorem AV{P:bM}{l:Bool}{n b i:Nat}{w:bc}{s:dg}(h:gS P l n b i w s=false):turn P l n b i w s=if P.most<P.bad w.cA b then oA P b w s else put P b w (P.fN b w) (oA P b w s):=by unfold turn;erw[h];refine bZ (fun h:P.most<P.bad w.cA b=>?_) (fun h=>?_)<;>simp[h,oA]
theorem H9{P:bM}{b:Nat}{c:Int}{w bP:bc}{s s':dg}(hw:gU c w bP)(h:kJ c s s'):kJ c (oA P b w s) (oA P b bP s'):=by
 have:P.over b bP=P.over b w:=by unfold bM.over;erw[hw.cA]
 unfold oA;erw[this]
 split
 ·exact h
 ·exact⟨h.kept.snoc hw,h.best,h.least,h.emp⟩
theorem TP{P:bM}{n b i:Nat}{c:Int}{w bP:bc}{s s':dg}(hw:gU c w bP)(h:kJ c s s')(av:gS P true n b i bP s'=false):kJ c (turn P false n b i w s) (turn P true n b i bP s'):=by
 erw[AV av,AV (l:=false) (by simp[gS])];have e:P.fN b bP=P.fN b w+c:=by unfold bM.fN;erw[hw.cA,hw.fit,hw.bJ];lia
 erw[hw.cA,e]
 split
 ·exact H9 hw h
 ·exact H8 hw (H9 hw h)
theorem TQ{P:bM}{n b i:Nat}{c:Int}{w bP:bc}{s s':dg}(hw:gU c w bP)(h:kJ c s s')(av:gS P true n b i bP s'=true)(aA:fin P b (turn P false n b i w s)≠[]):∃dr,kJ dr (turn P false n b i w s) (turn P true n b i bP s'):=by
 unfold gS at av;simp only[uy,lU,km,decide_eq_true_eq]at av;obtain⟨aO,ai,ae,aw⟩:=av;have kD:P.over b w=true:=by erw[←aO];unfold bM.over;erw[hw.cA]
 obtain⟨k,be,le⟩:=s;obtain⟨jt,aa7,aa8⟩:=s'
 dsimp only at ai ae
 subst ai ae;obtain⟨aa,ab,aq,ba⟩:=h;cases aa;cases ab;have ar:=ba rfl;subst ar;cases aq;rw[AV (l:=false) (by simp[gS])]at aA⊢;have aL:oA P b w ⟨[],[],[]⟩=⟨[],[],[]⟩:=by unfold oA;erw[if_pos kD]
 rw[aL]at aA⊢;refine bZ (fun hm:P.most<P.bad w.cA b=>?_) (fun hm=>?_)
 ·rw[if_pos hm]at aA;exact absurd rfl aA
 ·erw[if_neg hm];refine⟨bP.bJ-P.fN b w,?_⟩;have e:turn P true n b i bP ⟨[],[],[]⟩=put P b bP (P.fN b w+(bP.bJ-P.fN b w)) ⟨[],[],[]⟩:=by
   have av:gS P true n b i bP ⟨[],[],[]⟩=true:=by simp[gS,aO,aw]
   unfold turn;erw[av,aO,show P.fN b w+(bP.bJ-P.fN b w)=bP.bJ by lia];simp
  erw[e];exact H8 hw ⟨.nil,.nil,.nil,fun ag=>rfl⟩
theorem TR{P:bM}{l:Bool}{n b i:Nat}{w:bc}{s:dg}(av:gS P l n b i w s=true):i+1=n:=of_decide_eq_true (cC.mp (cC.mp (cC.mp (cC.mp av).2).2).2).2
theorem TS{P:bM}{n b:Nat}{c:Int}{ws fO:List bc}(ax:dn (gU c) ws fO):∀{i:Nat} {s s':dg},kJ c s s'→i+ws.length=n→fin P b (ih P false n b i ws s)≠[]→∃dr,kJ dr (ih P false n b i ws s) (ih P true n b i fO s'):=by
 induction ax with
 |nil=>intro i s s' h _ _;exact⟨c,h⟩
 | @cons w bP l m hw t aG=>
  intro i s s' h aw aA;cases av:gS P true n b i bP s' with
  |false=>exact aG (TP hw h av) ((iP i 1 _).trans aw) aA
  |true=>
   cases t with
   |nil=>exact TQ hw h av aA
   | @cons _ _ l _=>have aw:i+1+(l.length+1)=n:=(iP i 1 _).trans aw;exact absurd ((TR av).trans aw.symm) (ki (qw (ji _)))
theorem TU{α β:Type}{R:Int×α→Int×β→Prop}(ai:∀x y,R x y→y.1=x.1){l:List (Int×α)}{m:List (Int×β)}(h:dn R l m):m.map (·.1)=l.map (·.1):=by
 induction h with
 |nil=>rfl
 |cons r _ aG=>erw[g0,g0,aG,ai _ _ r]
theorem TV{P:bM}{b:Nat}{c:Int}{s s':dg}(h:kJ c s s')(low:∀key o,lk key s.best=I o→∃v,lk (key/4) s.least=I v):∀a6:List Int,dn (gU c) (a6.filterMap (iF P b s)) (a6.filterMap (iF P b s')):=by
 intro aT
 induction aT with
 |nil=>exact .nil
 |cons k a6 aD=>
  have aG:=aD;have hS:∀x y,we c x y→y.1=x.1:=fun ag ag h=>h.key;have q2:∀x y:Int×Int,(y.1=x.1∧y.2=x.2+c)→y.1=x.1:=fun ag ag h=>h.1;erw[uA,uA];unfold iF at aG⊢
  rcases wg (k:=k) hS h.best with⟨a,e⟩|⟨x,y,a,e,r⟩
  ·erw[a,e];exact aG
  ·obtain⟨v,aJ⟩:=low k x a
   rcases wg (k:=k/4) q2 h.least with⟨a2,_⟩|⟨u,pD,a2,au,_,b3⟩
   ·replace aJ:=a2▸aJ;injections aJ
   ·have b3:pD=u+c:=b3;have hd:y.d=x.d+c:=r.d;have ar:y.ln=x.ln:=r.ln;erw[a,e,a2,au,b3];simp only[Z8,Option.getD_some,hd];refine bZ (fun ah:x.d≤u+P.A=>?_) (fun ah=>?_)
    ·erw[if_pos ah,if_pos (by erw[CX];exact kn ah c)];exact .cons ⟨rfl,ar,rfl,congrArg (b:: ·) r.w,rfl⟩ aG
    ·erw[if_neg ah,if_neg (by erw[CX];exact fun h=>ah (aak h))];exact aG
theorem TX{P:bM}{b:Nat}{c:Int}{act m8:List bc}(hf:∀a b,0≤P.fit a b∧P.fit a b≤3)(h:dn (gU c) act m8)(aA:ly P false b act≠[]):∃dr,dn (gU dr) (ly P false b act) (ly P true b m8):=by have ok:=AU (P:=P) (n:=act.length) (b:=b) hf act [] 0 ⟨[],[],[]⟩ ⟨rfl,fun ag ag e=>(nomatch e),fun ag e=>(nomatch e),fun ag ag e=>(nomatch e),fun ag ag e=>(nomatch e)⟩;obtain⟨dr,g⟩:=TS (P:=P) (b:=b) h (i:=0) (s:=⟨[],[],[]⟩) (s':=⟨[],[],[]⟩) ⟨.nil,.nil,.nil,fun ag=>rfl⟩ (nN _) aA;refine⟨dr,?_⟩;delta ly fin;erw[h.length,TU (fun ag ag h=>h.key) g.best];exact g.kept.app (TV g (fun key o e=>by obtain⟨v,a,_⟩:=ok.low key o e;exact⟨v,a⟩) _)
noncomputable def bK(P:bM)(ig:Bool):Nat→List bc
 |0=>[.root]
 |j+1=>ly P ig (j+1) (bK P ig j)
structure hE(P:bM):Prop where
 fit:∀a b,0≤P.fit a b∧P.fit a b≤3
 A:0≤P.A
 hV:P.hV P.M=true
 pos:0<P.M
 mono:∀a t b,a<t→t<b→P.bad a b≤P.most→P.bad a t≤10000
 gs:∀i j,P.cB i=P.cB j→P.cB (i+1)=P.cB (j+1)
 da:∀b,0<b→P.bad 0 b≤P.most→P.cu (P.fit 0 b) 2=0
theorem H'{P:bM}(h:hE P):∀j,Run P j (bK P false j):=by
 intro eW
 induction eW with
 |zero=>exact .zero
 |succ j aD=>exact .succ (aD) (TO h.fit h.A)
theorem wh{P:bM}(h:hE P){w:bc}(hw:w∈bK P false P.M):fB P w.path P.M w.line w.fit w.bJ:=by
 refine eA fun cF=>?_;obtain⟨a,b,c⟩:=(H' h P.M).sound w hw;refine cF ?_;have e:w.cA=P.M:=by
  refine eF (CR w.cA P.M) (fun l=>?_) (fun l=>?_)
  ·have:=(c P.M l (bE _)).1;rw[h.hV]at this;injections this
  ·exact rU b l
 erw[←e];exact a
theorem Ia{P:bM}(h:hE P){p:List Nat}{k f d:Int}(hp:fB P p P.M k f d):∃w,w∈bK P false P.M∧P.cB w.line=P.cB k∧w.bJ≤d:=by
 refine eA fun cF=>?_;obtain⟨w,a,_,c,e⟩:=(H' h P.M).complete h.mono h.gs hp (bE _) fun t aM bt=>absurd (ey aM bt) (qu _);refine cF ?_;refine⟨w,a,c,?_⟩;have aa:=e f;have ab:P.cu f f=0:=by unfold bM.cu;erw[if_neg (by lia)]
 have aq:0≤P.cu f w.fit:=by have:=h.A;unfold bM.cu;refine Mine.eT (fun h=>?_) (fun h=>?_)<;>lia
 lia
theorem AW{P:bM}(h:hE P){p:List Nat}{k f d:Int}(hp:fB P p P.M k f d):∃q,p=P.M::q:=by
 have ic:=h.pos;generalize he:P.M=b at hp ic⊢;cases hp with
 |root=>exact absurd ic (qu _)
 |step=>exact⟨_,rfl⟩
theorem rd{P cn:bM}{g:Nat→Nat→Int}{pc:Nat→Int}(m:gR P cn g pc)(h:hE P)(h':hE cn)(aK:cn.cB=P.cB){w:bc}(hw:w∈bK P false P.M):∃bP,bP∈bK cn false P.M∧P.cB bP.line=P.cB w.line∧bP.bJ≤w.bJ:=by have s:=wh h hw;refine f7 (AW h s) fun q e=>?_;rw[e]at s;refine f7 (m.pt h.da h'.da s) fun sx s'=>?_;rw[←m.M]at s';obtain⟨bP,a,b,c⟩:=Ia h' s';rw[m.M]at a;rw[aK]at b;exact⟨bP,a,b,c⟩
theorem wi{P:bM}(h:hE P)(aK:∀i,P.cB i=i):(bK P false P.M).Pairwise fun a b=>a.line≤b.line:=by
 obtain⟨j,a'⟩:∃j,P.M=j+1:=mC.mpr (h.pos);have ok:=AU (P:=P) (n:=(bK P false j).length) (b:=j+1) h.fit (bK P false j) [] 0 ⟨[],[],[]⟩ ⟨rfl,fun ag ag e=>(nomatch e),fun ag e=>(nomatch e),fun ag ag e=>(nomatch e),fun ag ag e=>(nomatch e)⟩;erw[a'];show(fin P (j+1) (ih P false (bK P false j).length (j+1) 0 (bK P false j) ⟨[],[],[]⟩)).Pairwise _;generalize ih P false (bK P false j).length (j+1) 0 (bK P false j) ⟨[],[],[]⟩=s at ok;rw[nQ]at ok;have ai:s.kept=[]:=by
  erw[ok.kept,aaf];intro w _;have:P.over (j+1) w=true:=by unfold bM.over;erw[←a',h.hV,xT]
  simp[this]
 unfold fin;erw[ai,nQ];refine List.Pairwise.filterMap _ (fun a b du x aC y aV=>?_) (DW _);have ln:∀{k:Int} {x:bc},iF P (j+1) s k=I x→x.line=k/4:=by
  intro k x aC;unfold iF at aC;cases ar:lk k s.best with
  |none=>rw[ar]at aC;injections aC
  |some o=>
   rw[ar]at aC;have aC:(if o.d≤(lk (k/4) s.least).getD 0+P.A then I (bc.go (j+1) o.ln (k%4) o.d o.w)else J)=I x:=aC
   split at aC
   ·injections aC
    obtain⟨w,_,_,ay,au⟩:=ok.pS k o ar;erw[ay,au];exact((q5 (h.fit w.cA (j+1))).1.trans (aK _)).symm
   ·injections aC
 erw[ln aC,ln aV];exact Int.ediv_le_ediv (by decide) du
noncomputable def hF(P:bM)(ig:Bool)(L:Int):Option (List Nat):=if(bK P ig P.M).isEmpty then J else if U ((picked (bK P ig P.M) L).2≠L)&& !ig then J else I (picked (bK P ig P.M) L).1.path
theorem wj{ws:List bc}{L:Int}(aA:ws≠[])(aL:L≠0→ws.Pairwise fun a b=>a.line≤b.line):(picked ws L).1∈ws:=by
 refine bZ (fun cv:L=0=>?_) (fun cv=>?_)
 ·subst cv;unfold picked;erw[if_pos rfl];show bestOf (ws.headD .root) ws∈ws
  induction ws using bY with
  |nil=>exact absurd rfl aA
  |cons v r=>
   have:∀(l:List bc) (b:bc),bestOf b l=b∨bestOf b l∈l:=by
    intro l
    induction l with
    |nil=>intro b;exact .inl rfl
    |cons x l aG=>
     intro b
     rcases aG (if x.bJ<b.bJ then x else b)with e|e
     ·refine bZ (fun ah:x.bJ<b.bJ=>?_) (fun ah=>?_)
      ·right
       have e:bestOf b (x::l)=x:=by show bestOf (if x.bJ<b.bJ then x else b) l=x;erw[e,if_pos ah]
       erw[e];exact .head _
      ·left
       show bestOf (if x.bJ<b.bJ then x else b) l=b;erw[e,if_neg ah]
     ·exact .inr (.tail _ e)
   rcases this (v::r) v with e|e
   ·show bestOf v (v::r)∈_;erw[e];exact .head _
   ·exact e
 ·exact(tr cv aA (aL cv)).mem
theorem Ib:∀(ws:List bc) (b:bc),(bestOf b ws).bJ≤b.bJ∧∀w,w∈ws→(bestOf b ws).bJ≤w.bJ:=by
 intro aT
 induction aT with
 |nil=>intro b;exact⟨dZ _,fun ag h=>(nomatch h)⟩
 |cons v ws aD=>
  intro b;obtain⟨aa,ab⟩:=aD (if v.bJ<b.bJ then v else b);have aq:(if v.bJ<b.bJ then v else b).bJ≤b.bJ∧(if v.bJ<b.bJ then v else b).bJ≤v.bJ:=by
   split
   ·rename_i h;exact⟨jO h,dZ _⟩
   ·rename_i h;exact⟨dZ _,ez.mp h⟩
  refine⟨cZ aa aq.1,fun w hw=>?_⟩
  rcases ec.mp hw with rfl|hw
  ·exact cZ aa aq.2
  ·exact ab w hw
section
variable{P cn:bM}{g oq:Nat→Nat→Int}{pc AX:Nat→Int}
theorem AY(m:gR P cn g pc)(h8:gR cn P oq AX)(h:hE P)(h':hE cn)(aK:cn.cB=P.cB):bK P false P.M=[]↔bK cn false P.M=[]:=by
 constructor
 ·intro e;cases aE:bK cn false P.M with
  |nil=>rfl
  |cons w r=>obtain⟨v,aJ,_⟩:=rd h8 h' h aK.symm (w:=w) (by erw[m.M,aE];exact .head _);replace aJ:=e▸(m.M▸aJ);cases aJ
 ·intro e;cases aE:bK P false P.M with
  |nil=>rfl
  |cons w r=>obtain⟨v,aJ,_⟩:=rd m h h' aK (w:=w) (by erw[aE];exact .head _);replace aJ:=e▸aJ;cases aJ
theorem TY(m:gR P cn g pc)(h8:gR cn P oq AX)(h:hE P)(h':hE cn)(aK:cn.cB=P.cB)(aA:bK P false P.M≠[]):(picked (bK P false P.M) 0).1.bJ=(picked (bK cn false P.M) 0).1.bJ:=by have gg:bK cn false P.M≠[]:=fun e=>aA ((AY m h8 h h' aK).mpr e);have ay:=wj (L:=0) aA fun h=>absurd rfl h;have au:=wj (L:=0) gg fun h=>absurd rfl h;refine eA fun cF=>?_;obtain⟨v,v1,_,v2⟩:=rd m h h' aK ay;obtain⟨u,rb,_,vZ⟩:=rd h8 h' h aK.symm (w:=(picked (bK cn false P.M) 0).1) (by erw[m.M];exact au);refine cF ?_;replace rb:=m.M▸rb;have f1:∀w,w∈bK P false P.M→(picked (bK P false P.M) 0).1.bJ≤w.bJ:=(Ib _ _).2;have f2:∀w,w∈bK cn false P.M→(picked (bK cn false P.M) 0).1.bJ≤w.bJ:=(Ib _ _).2;exact rN (cZ (f1 u rb) vZ) (cZ (f2 v v1) v2)
theorem Ic(m:gR P cn g pc)(h8:gR cn P oq AX)(h:hE P)(h':hE cn)(aK:∀i,P.cB i=i)(mm:∀i,cn.cB i=i){L:Int}(cv:L≠0)(aA:bK P false P.M≠[]):
  (picked (bK P false P.M) L).2=(picked (bK cn false P.M) L).2∧(picked (bK P false P.M) L).1.line=(picked (bK cn false P.M) L).1.line∧(picked (bK P false P.M) L).1.bJ=(picked (bK cn false P.M) L).1.bJ:=by
 have e:cn.cB=P.cB:=funext fun i=>(mm i).trans (aK i).symm;have gg:bK cn false P.M≠[]:=fun x=>aA ((AY m h8 h h' e).mpr x);refine TH cv aA gg (wi h aK) (by have:=wi h' mm;rw[m.M]at this;exact this) (fun w hw=>?_) fun w hw=>?_
 ·obtain⟨v,a,b,c⟩:=rd m h h' e hw;rw[aK,aK]at b;exact⟨v,a,b,c⟩
 ·obtain⟨v,a,b,c⟩:=rd h8 h' h e.symm (w:=w) (by erw[m.M];exact hw);rw[m.M]at a;rw[mm,mm]at b;exact⟨v,a,b,c⟩
end
theorem TZ{c:Int}{ws fO:List bc}(h:dn (gU c) ws fO):∀{b b':bc},gU c b b'→gU c (bestOf b ws) (bestOf b' fO):=by
 induction h with
 |nil=>intro b b' h;exact h
 | @cons w bP l m r _ aG=>
  intro b b' ae;show gU c (bestOf (if w.bJ<b.bJ then w else b) l) (bestOf (if bP.bJ<b'.bJ then bP else b') m);refine aG ?_;erw[r.bJ,ae.bJ];refine bZ (fun ah:w.bJ<b.bJ=>?_) (fun ah=>?_)
  ·erw[if_pos ah,if_pos (aal ah c)];exact r
  ·erw[if_neg ah,if_neg fun h=>ah (aam h)];exact ae
theorem T1{c cP L:Int}{ws fO:List bc}(h:dn (gU c) ws fO):∀{s s':bc×Int},gU c s.1 s'.1→s'.2=s.2→gU c (ws.foldl (fC cP L) s).1 (fO.foldl (fC cP L) s').1∧(fO.foldl (fC cP L) s').2=(ws.foldl (fC cP L) s).2:=by
 induction h with
 |nil=>intro s s' h e;exact⟨h,e⟩
 | @cons w bP l m r _ aG=>
  intro s s' aL e;have key:gU c (fC cP L s w).1 (fC cP L s' bP).1∧(fC cP L s' bP).2=(fC cP L s w).2:=by
   unfold fC;erw[r.line,e,r.bJ,aL.bJ];refine bZ (fun ah:((L≤w.line-cP∧w.line-cP<s.2)∨(s.2<w.line-cP∧w.line-cP≤L))∨(w.line-cP=s.2∧w.bJ<s.1.bJ)=>?_) (fun ah=>?_)
   ·erw[if_pos ah,if_pos (ah.imp id fun h=>⟨h.1,aal h.2 c⟩)];exact⟨r,rfl⟩
   ·erw[if_neg ah,if_neg fun h=>ah (h.imp id fun h=>⟨h.1,aam h.2⟩)];exact⟨aL,e⟩
  exact aG key.1 key.2
theorem Ie{c L:Int}{ws fO:List bc}(h:dn (gU c) ws fO)(aA:ws≠[]):gU c (picked ws L).1 (picked fO L).1∧(picked fO L).2=(picked ws L).2:=by
 cases h with
 |nil=>exact absurd rfl aA
 | @cons w bP l m r t=>
  have ae:=TZ (.cons r t) r;unfold picked;show gU c (if L=0 then(bestOf w (w::l),0)else(w::l).foldl (fC (bestOf w (w::l)).line L) (bestOf w (w::l),0)).1 (if L=0 then(bestOf bP (bP::m),0)else(bP::m).foldl (fC (bestOf bP (bP::m)).line L) (bestOf bP (bP::m),0)).1∧(if L=0 then(bestOf bP (bP::m),0)else(bP::m).foldl (fC (bestOf bP (bP::m)).line L) (bestOf bP (bP::m),0)).2=(if L=0 then(bestOf w (w::l),0)else(w::l).foldl (fC (bestOf w (w::l)).line L) (bestOf w (w::l),0)).2
  refine bZ (fun cv:L=0=>?_) (fun cv=>?_)
  ·erw[if_pos cv,if_pos cv];exact⟨ae,rfl⟩
  ·erw[if_neg cv,if_neg cv,ae.line];exact T1 (.cons r t) ae rfl
theorem aa9(P:bM)(l:Bool)(b:Nat):ly P l b []=[]:=rfl
theorem T2{P:bM}(h:hE P):∀j,bK P false j≠[]→∃c,dn (gU c) (bK P false j) (bK P true j):=by
 intro eW
 induction eW with
 |zero=>intro _;exact⟨0,.cons ⟨rfl,rfl,rfl,rfl,(eP _).symm⟩ .nil⟩
 |succ j aD=>intro aA;have T3:bK P false j≠[]:=fun e=>aA (by show ly P false (j+1) (bK P false j)=[];erw[e];rfl);refine f7 (aD T3) fun c ah=>?_;exact TX h.fit ah aA
theorem T4{P:bM}(h:hE P){L:Int}(aA:bK P false P.M≠[]):bK P true P.M≠[]∧(picked (bK P true P.M) L).1.path=(picked (bK P false P.M) L).1.path∧(picked (bK P true P.M) L).2=(picked (bK P false P.M) L).2:=by refine f7 (T2 h P.M aA) fun c ah=>?_;have:=ah.length;refine⟨fun e=>?_,(Ie ah aA).1.path,(Ie ah aA).2⟩;rw[e]at this;exact aA (o4 this.symm)
end Mine
end
section
open PySem PySem.W
namespace Mine.L
def body(f:Nat):bD:=((bl f).map (·.body)).getD .nil
theorem bG{α β:Type}{o:Option (α×St)}{a:α}{s:St}{f:α→St→Option β}{r:Option β}(h:o=I (a,s))(ab:f a s=r):aY o f=r:=h▸ab
theorem bz{α β:Type}{o:Option α}{a:α}{f:α→Option β}{r:Option β}(h:o=I a)(ab:f a=r):o.bind f=r:=h▸ab
theorem eo{α β:Type}{o:Option α}{a:α}{f:α→β}{b:β}(h:o=I a)(ab:f a=b):o.map f=I b:=h▸ab▸rfl
noncomputable def app:bD→bD→bD
 | .nil,b=>b
 | .cons s a,b=>.cons s (app a b)
theorem AZ(C:Calls)(b:bD):∀(a:bD) (st:St),bI C (app a b) st=aY (bI C a st) fun r st=>n0 r st fun st=>bI C b st
 | .nil,st=>rfl
 | .cons s a,st=>by
  show aY (iU C s st) _=aY (aY (iU C s st) _) _;cases iU C s st with
  |none=>rfl
  |some p=>cases h:p.1 with
   |next=>show n0 p.1 p.2 _=aY (n0 p.1 p.2 _) _;erw[h];exact AZ C b a p.2
   |_=>show n0 p.1 p.2 _=aY (n0 p.1 p.2 _) _;erw[h];rfl
theorem rf{α:Sort _}{a b r:α}(h:a=r):(if true=true then a else b)=r:=h
section
variable(C:Calls)(st:St)
theorem Ig(e):fi C (.of e) st=aY (aj C e st) fun x st=>(st.lend x).map fun p=>(x,p.1,p.2):=rfl
theorem T5(e):fi C (.enum e) st=aY (aj C e st) fun x st=>(xL x).bind fun xs=>if fit xs.length then I (.v .bB,pairs 0 xs,st)else J:=rfl
theorem T6(a b):fi C (.zip a b) st=aY (aj C a st) fun x st=>(xL x).bind fun xs=>aY (aj C b st) fun y st=>(xL y).bind fun aS=>if fit (xs.length+aS.length)then I (.v .bB,k4 xs aS,st)else J:=rfl
theorem T7(b):fi C (.range b) st=aY (aj C b st) fun y st=>(fJ y).bind fun n=>if inR n then I (.v .bB,gM 0 n,st)else J:=rfl
theorem T8(a b):fi C (.lY a b) st=aY (aj C a st) fun x st=>(fJ x).bind fun m=>aY (aj C b st) fun y st=>(fJ y).bind fun n=>if inR m&&inR n then I (.v .bB,gM m n,st)else J:=rfl
theorem wk(t e):iU C (.assign t e) st=aY (aj C e st) fun x st=>(asg C t x st).map fun st=>(.next,st):=rfl
theorem T9(ts es):iU C (.jU ts es) st=aY (dq C es st) fun xs st=>(gb C ts xs st).map fun st=>(.next,st):=rfl
theorem T'(e i v):iU C (.pe e i v) st=aY (aj C e st) fun x st=>aY (aj C i st) fun j st=>((st.item x j).bind fJ).bind fun a=>aY (aj C v st) fun y st=>(fJ y).bind fun b=>(st.setItem x j (.v (.int (a+b)))).map fun st=>(.next,st):=rfl
theorem Ua(c a b):iU C (.ite c a b) st=aY (aj C c st) fun x st=>(k3 x).bind fun t=>if t then bI C a st else bI C b st:=rfl
theorem Ub(e):iU C (.ret e) st=aY (aj C e st) fun x st=>I (.ret x,st):=rfl
theorem Uc(e):iU C (.expr e) st=aY (aj C e st) fun ag st=>I (.next,st):=rfl
theorem Ih(e n x):asg C (.attr e n) x st=aY (aj C e st) fun o st=>st.setAttr o n x:=rfl
theorem Ii(e i x):asg C (.item e i) x st=aY (aj C e st) fun o st=>aY (aj C i st) fun j st=>st.setItem o j x:=rfl
end
section
variable{C:Calls}{st st1 st2 i6:St}{a b c e:ao}{es:az}{x y z:X}{i j k:Int}{n:Nat}{p q:Bool}{u v w:V}{xs aS vs:List V}{o br:bk}
theorem a9:aj C (.const v) st=I (.v v,st):=rfl
theorem aP(h:st.loc[n]? =I (I x)):aj C (.loc n) st=I (x,st):=bz h rfl
theorem j4{op:jT}{r:V}(aa:aj C a st=I (x,st1))(ab:aj C b st1=I (y,st2))(hb:st2.val x=I u)(aJ:st2.val y=I v)(h:uO op u v=I r):aj C (.bin op a b) st=I (.v r,st2):=bG aa (bG ab (bz hb (bz aJ (eo h rfl))))
theorem nf(aa:aj C a st=I (.v (.int i),st1))(ab:aj C b st1=I (.v (.int j),st2)):aj C (.bin .add a b) st=I (.v (.int (i+j)),st2):=j4 aa ab rfl rfl rfl
theorem oB(aa:aj C a st=I (.v (.int i),st1))(ab:aj C b st1=I (.v (.int j),st2)):aj C (.bin .sub a b) st=I (.v (.int (i-j)),st2):=j4 aa ab rfl rfl rfl
theorem oC(aa:aj C a st=I (.v (.int i),st1))(ab:aj C b st1=I (.v (.int j),st2))(h:(small i||small j)=true):aj C (.bin .mul a b) st=I (.v (.int (i*j)),st2):=j4 aa ab rfl rfl (if_pos h)
theorem Ij(aa:aj C a st=I (.v (.int i),st1))(ab:aj C b st1=I (.v (.int j),st2))(h:¬(j=0∨small j=false)):aj C (.bin .fdiv a b) st=I (.v (.int (i.fdiv j)),st2):=j4 aa ab rfl rfl (if_neg h)
theorem wm(aa:aj C a st=I (.v (.int i),st1))(ab:aj C b st1=I (.v (.int j),st2))(h:¬j=0):aj C (.bin .mod a b) st=I (.v (.int (i.fmod j)),st2):=j4 aa ab rfl rfl (if_neg h)
theorem wo(aa:aj C a st=I (.v (.int i),st1)):aj C (.neg a) st=I (.v (.int (-i)),st1):=bG aa rfl
theorem wq(aa:aj C a st=I (.v (.bool p),st1)):aj C (.not a) st=I (.v (.bool (!p)),st1):=bG aa rfl
theorem Ik(aa:aj C a st=I (.v (.bool p),st1))(ab:p=true→aj C b st1=I (.v (.bool q),st1)):aj C (.and a b) st=I (.v (.bool (p&&q)),st1):=bG aa (match p,ab with
 |false,_=>rfl
 |true,ab=>bz rfl (rf (bG (ab rfl) rfl)))
theorem lz(aa:aj C a st=I (.v (.bool p),st1))(ab:aj C b st1=I (.v (.bool q),st1)):aj C (.and a b) st=I (.v (.bool (p&&q)),st1):=Ik aa fun ag=>ab
theorem tA(aa:aj C a st=I (.v (.bool p),st1))(ab:p=false):aj C (.and a b) st=I (.v (.bool false),st1):=bG aa (by erw[ab];rfl)
theorem Ud(aa:aj C a st=I (.v (.bool p),st1))(ab:p=true):aj C (.or a b) st=I (.v (.bool true),st1):=bG aa (by erw[ab];rfl)
theorem Il(aa:aj C a st=I (.v (.bool p),st1))(ab:p=false→aj C b st1=I (.v (.bool q),st1)):aj C (.or a b) st=I (.v (.bool (p||q)),st1):=bG aa (match p,ab with
 |true,_=>rfl
 |false,ab=>bz rfl ((if_neg (by decide)).trans (bG (ab rfl) rfl)))
theorem rg(aa:aj C a st=I (.v (.bool p),st1))(ab:aj C b st1=I (.v (.bool q),st1)):aj C (.or a b) st=I (.v (.bool (p||q)),st1):=Il aa fun ag=>ab
theorem hW(aa:aj C a st=I (x,st1))(ab:aj C b st1=I (y,st2))(h:st2.cmp o x y=I p):aj C (.cmp a o b) st=I (.v (.bool p),st2):=bG aa (bG ab (eo h rfl))
theorem mn(aa:aj C a st=I (.v (.int i),st1))(ab:aj C b st1=I (.v (.int j),st2)):aj C (.cmp a .eq b) st=I (.v (.bool (U (i=j))),st2):=hW aa ab rfl
theorem Ue(aa:aj C a st=I (.v (.int i),st1))(ab:aj C b st1=I (.v (.int j),st2)):aj C (.cmp a .ne b) st=I (.v (.bool (!U (i=j))),st2):=hW aa ab rfl
theorem wt(aa:aj C a st=I (.v (.int i),st1))(ab:aj C b st1=I (.v (.int j),st2)):aj C (.cmp a .lt b) st=I (.v (.bool (U (i<j))),st2):=hW aa ab rfl
theorem A0(aa:aj C a st=I (.v (.int i),st1))(ab:aj C b st1=I (.v (.int j),st2)):aj C (.cmp a .le b) st=I (.v (.bool (U (i≤j))),st2):=hW aa ab rfl
theorem pT(aa:aj C a st=I (.v (.int i),st1))(ab:aj C b st1=I (.v (.int j),st2)):aj C (.cmp a .gt b) st=I (.v (.bool (U (i>j))),st2):=hW aa ab rfl
theorem rh(aa:aj C a st=I (.v (.int i),st1))(ab:aj C b st1=I (.v (.int j),st2)):aj C (.cmp a .ge b) st=I (.v (.bool (U (i≥j))),st2):=hW aa ab rfl
theorem tB(aa:aj C a st=I (.v u,st1)):aj C (.cmp a .is (.const .bB)) st=I (.v (.bool (ks u)),st1):=hW aa a9 rfl
theorem wu(aa:aj C a st=I (.v u,st1)):aj C (.cmp a .nW (.const .bB)) st=I (.v (.bool (!ks u)),st1):=hW aa a9 rfl
theorem A1(aa:aj C a st=I (x,st1))(ab:aj C b st1=I (y,st2))(hp:st2.cmp o x y=I p)(aq:aj C c st2=I (z,st2))(aE:st2.cmp br y z=I q):aj C (.k1 a o b br c) st=I (.v (.bool (p&&q)),st2):=bG aa (bG ab (bz hp (match p with
 |false=>rfl
 |true=>rf (bG aq (eo aE rfl)))))
theorem Ug(aa:aj C a st=I (.v (.int i),st1))(ab:aj C b st1=I (.v (.int j),st2))(aq:aj C c st2=I (.v (.int k),st2)):aj C (.k1 a .le b .le c) st=I (.v (.bool (U (i≤j)&&U (j≤k))),st2):=A1 aa ab rfl aq rfl
theorem Uh(aa:aj C a st=I (.v (.int i),st1))(ab:aj C b st1=I (.v (.int j),st2))(aq:aj C c st2=I (.v (.int k),st2)):aj C (.k1 a .le b .lt c) st=I (.v (.bool (U (i≤j)&&U (j<k))),st2):=A1 aa ab rfl aq rfl
theorem Ui(aa:aj C a st=I (.v (.int i),st1))(ab:aj C b st1=I (.v (.int j),st2))(aq:aj C c st2=I (.v (.int k),st2)):aj C (.k1 a .lt b .le c) st=I (.v (.bool (U (i<j)&&U (j≤k))),st2):=A1 aa ab rfl aq rfl
theorem jB(aa:aj C a st=I (.v (.bool p),st1))(ab:p=true→aj C b st1=I (x,st2))(aq:p=false→aj C c st1=I (x,st2)):aj C (.k2 a b c) st=I (x,st2):=bG aa (match p,ab,aq with
 |true,ab,_=>ab rfl
 |false,_,aq=>aq rfl)
theorem Im(aa:aj C a st=I (.v (.bool p),st1))(ab:p=true→aj C b st1=I (.v u,st1))(aq:p=false→aj C c st1=I (.v v,st1)):aj C (.k2 a b c) st=I (.v (bif p then u else v),st1):=jB aa (fun e=>by erw[e];exact ab e) fun e=>by erw[e];exact aq e
theorem A2(aa:aj C a st=I (.v (.bool p),st1))(ab:p=true→aj C b st1=I (.v (.int i),st1))(aq:p=false→aj C c st1=I (.v (.int j),st1)):aj C (.k2 a b c) st=I (.v (.int (bif p then i else j)),st1):=jB aa (fun e=>by erw[e];exact ab e) fun e=>by erw[e];exact aq e
theorem Uj(aa:aj C a st=I (.v (.bool p),st1))(ab:aj C b st1=I (.v u,st1))(aq:aj C c st1=I (.v v,st1)):aj C (.k2 a b c) st=I (.v (bif p then u else v),st1):=Im aa (fun ag=>ab) fun ag=>aq
theorem A3(aa:aj C a st=I (.v (.bool p),st1))(ab:aj C b st1=I (.v (.int i),st1))(aq:aj C c st1=I (.v (.int j),st1)):aj C (.k2 a b c) st=I (.v (.int (bif p then i else j)),st1):=A2 aa (fun ag=>ab) fun ag=>aq
theorem hi{t:Option Nat}{cl:Nat}{fs:List (Nat×V)}(aa:aj C a st=I (.v (.obj t cl fs),st1))(h:se cl n ((er n fs).map .v)=I x):aj C (.attr a n) st=I (x,st1):=bG aa (eo h rfl)
theorem tC{m cl:Nat}{fs:List (Nat×X)}(aa:aj C a st=I (.cell m,st1))(hm:st1.heap[m]? =I (.inst cl fs))(h:se cl n (er n fs)=I x):aj C (.attr a n) st=I (x,st1):=bG aa (eo (bz (bz hm rfl) h) rfl)
theorem hj(aa:aj C a st=I (.v u,st1))(ab:aj C b st1=I (.v v,st2))(h:gL u v=I w):aj C (.item a b) st=I (.v w,st2):=bG aa (bG ab (eo (eo h rfl) rfl))
theorem gy{m:Nat}{cl:Cell}(aa:aj C a st=I (.cell m,st1))(ab:aj C b st1=I (.v v,st2))(hm:st2.heap[m]? =I cl)(h:nZ cl v=I x):aj C (.item a b) st=I (x,st2):=bG aa (bG ab (eo (bz rfl (bz hm h)) rfl))
theorem pU(aa:aj C a st=I (x,st1))(h:st1.val x=I (.lst xs))(hf:fit xs.length=true):aj C (.rev a) st=I (.v (.lst xs.reverse),st1):=bG aa (bz h (if_pos hf))
theorem Uk(aa:aj C a st=I (x,st1))(h:st1.val x=I (.lst xs))(hf:fit xs.length=true):aj C (.uK a n) st=I (.v (.lst (xs.take n)),st1):=bG aa (bz h (if_pos hf))
theorem Ul(aa:aj C a st=I (.v (.tup (u::xs)),st1))(hf:fit (u::xs).length=true):aj C (.uL a) st=I (.v (.tup xs),st1):=bG aa (if_pos hf)
theorem eX(aa:iy C es st=I (vs,st1))(hf:fit vs.length=true):aj C (.tup es) st=I (.v (.tup vs),st1):=bG aa (if_pos hf)
theorem hX(aa:iy C es st=I (vs,st1))(hf:fit vs.length=true):aj C (.lst es) st=I (.v (.lst vs),st1):=bG aa (if_pos hf)
theorem dj:iy C .nil st=I ([],st):=rfl
theorem bA(aa:aj C a st=I (.v u,st1))(ab:iy C es st1=I (vs,st2)):iy C (.cons a es) st=I (u::vs,st2):=bG aa (bz rfl (bG ab rfl))
theorem cV:dq C .nil st=I ([],st):=rfl
theorem bH{l:List X}(aa:aj C a st=I (x,st1))(ab:dq C es st1=I (l,st2)):dq C (.cons a es) st=I (x::l,st2):=bG aa (bG ab rfl)
theorem fY{bi:gB}{l:List X}(aa:dq C es st=I (l,st1))(h:hP bi st1 l=I (x,st2)):aj C (.bi bi es) st=I (x,st2):=bG aa h
variable{f m t t' bs:Nat}{l di:List X}{lo:List (Option X)}{h h':List Cell}{ss mq iG:bD}{s:c8}{r:Option (R×St)}{rr:R}{aF:cJ}{src:Src}
theorem fo(aa:dq C es st=I (l,⟨lo,h,t,bs⟩))(ah:C f l h t h.length=I (x,h',t')):aj C (.call f es) st=I (x,⟨lo,h',t',bs⟩):=bG aa (eo ah rfl)
theorem Um(aa:aj C a st=I (x,st1))(hm:st1.yu n x=I f)(ab:dq C es st1=I (l,⟨lo,h,t,bs⟩))(ah:C f (x::l) h t h.length=I (y,h',t')):aj C (.uM a n es) st=I (y,⟨lo,h',t',bs⟩):=bG aa (bz hm (bG ab (eo ah rfl)))
theorem tD{c:Cell}:(h++[c])[h.length]? =I c:=by erw[iR (bE _),kY];rfl
theorem lA{c:Nat}{fs:List (Nat×X)}{gs:List (Nat×V)}(aa:dq C es st=I (l,⟨lo,h,t,bs⟩))(ah:C (gC c) (.cell h.length::l) (h++[.inst c []]) t h.length=I (.v .bB,h++[.inst c fs],t'))(ai:kept c=false)(hp:mM fs=I gs):
  aj C (.new c es) st=I (.v (.obj (if tagged c then I t' else J) c gs),⟨lo,h,if tagged c then t'+1 else t',bs⟩):=
 bG aa (bz ah (show sf c ⟨lo,h,t,bs⟩ (h++[.inst c fs]) t'=_ from bz (bz tD rfl) (by erw[if_neg (fun h=>h rfl),if_neg (by erw[ai];decide),rZ];exact eo hp rfl)))
theorem A4{c:Nat}{fs:List (Nat×X)}(aa:dq C es st=I (l,⟨lo,h,t,bs⟩))(ah:C (gC c) (.cell h.length::l) (h++[.inst c []]) t h.length=I (.v .bB,h++[.inst c fs],t'))(ai:kept c=true):
  aj C (.new c es) st=I (.cell h.length,⟨lo,h++[.inst c fs],t',bs⟩):=
 bG aa (bz ah (show sf c ⟨lo,h,t,bs⟩ (h++[.inst c fs]) t'=_ from bz (bz tD rfl) (by erw[if_neg (fun h=>h rfl),if_pos ai])))
theorem ng(aa:iy C es st=I (vs,⟨lo,h,t,bs⟩))(hf:fit vs.length=true):aj C (.jm es) st=I (.cell h.length,⟨lo,h++[.lst vs],t,bs⟩):=bG aa (if_pos hf)
theorem wx(aa:aj C a st=I (x,⟨lo,h,t,bs⟩))(aJ:(⟨lo,h,t,bs⟩:St).val x=I v)(aL:kr v=I vs)(hf:fit vs.length=true):aj C (.r9 a) st=I (.cell h.length,⟨lo,h++[.lst vs],t,bs⟩):=bG aa (bz aJ (bz aL (if_pos hf)))
theorem Un(aa:aj C a st=I (x,⟨lo,h,t,bs⟩))(aJ:(⟨lo,h,t,bs⟩:St).val x=I (.lst vs))(hf:fit vs.length=true):aj C (.pb a) st=I (.cell h.length,⟨lo,h++[.lst vs.reverse],t,bs⟩):=bG aa (bz aJ (if_pos hf))
theorem wy:aj C .cw ⟨lo,h,t,bs⟩=I (.cell h.length,⟨lo,h++[.cw []],t,bs⟩):=rfl
theorem Uo{a6:List Nat}(aa:dq C es st=I (l,⟨lo,h,t,bs⟩))(ai:yy a6 l=true):aj C (.e9 a6 es) st=I (.cell h.length,⟨lo,h++[.e9 (a6.zip l)],t,bs⟩):=bG aa (if_pos ai)
theorem gV(hm:h[m]? =I (.lst xs)):St.lst ⟨lo,h,t,bs⟩ m=I xs:=bz hm rfl
theorem A5(aa:aj C a st=I (.cell m,st1))(ar:st1.lst m=I aS)(ab:aj C b st1=I (.v v,⟨lo,h,t,bs⟩))(hm:St.lst ⟨lo,h,t,bs⟩ m=I xs)(hf:fit xs.length=true):aj C (.append a b) st=I (.v .bB,⟨lo,h.set m (.lst (xs++[v])),t,bs⟩):=bG aa (bz rfl (bz ar (bG ab (bG rfl (bz hm (if_pos hf))))))
theorem Up(aa:aj C a st=I (.cell m,st1))(ar:st1.lst m=I aS)(ab:aj C b st1=I (.v (.lst vs),⟨lo,h,t,bs⟩))(hm:St.lst ⟨lo,h,t,bs⟩ m=I xs)(hf:fit (xs++vs).length=true):aj C (.extend a b) st=I (.v .bB,⟨lo,h.set m (.lst (xs++vs)),t,bs⟩):=bG aa (bz rfl (bz ar (bG ab (bz rfl (bz hm (if_pos hf))))))
theorem Uq{kv:List (Int×V)}(aa:aj C a st=I (.cell m,st1))(ab:aj C b st1=I (.v (.int i),st1))(hd:st1.jn m=I kv):aj C (.qE a b) st=I (.v ((g8 i kv).getD .bB),st1):=bG aa (bz rfl (bz hd (bG ab (bz rfl (eo hd rfl)))))
theorem Ur{kv:List (Int×V)}(aa:aj C a st=I (.cell m,st1))(ab:aj C b st1=I (.v (.int i),st1))(aq:aj C c st1=I (.v v,st1))(hd:st1.jn m=I kv):aj C (.pd a b c) st=I (.v ((g8 i kv).getD v),st1):=bG aa (bz rfl (bz hd (bG ab (bz rfl (bG aq (bz rfl (eo hd rfl)))))))
theorem hk(aa:aj C a st=I (.v v,st1))(aL:kr v=I vs)(hf:fit vs.length=true):fi C (.of a) st=I (.v v,vs,st1):=(Ig ..).trans (bG aa (eo (bz aL (if_pos hf)) rfl))
theorem Us(aa:aj C a st=I (.cell m,⟨lo,h,t,bs⟩))(aL:St.lst ⟨lo,h,t,bs⟩ m=I vs)(hf:fit vs.length=true):fi C (.of a) st=I (.cell m,vs,⟨lo,h.set m .gone,t,bs⟩):=(Ig ..).trans (bG aa (eo (bz aL (if_pos hf)) rfl))
theorem A6(aa:aj C a st=I (.v (.lst vs),st1))(hf:fit vs.length=true):fi C (.enum a) st=I (.v .bB,pairs 0 vs,st1):=(T5 ..).trans (bG aa (bz rfl (if_pos hf)))
theorem Ut(aa:aj C a st=I (.v (.lst vs),st1))(ab:aj C b st1=I (.v (.lst xs),st2))(hf:fit (vs.length+xs.length)=true):fi C (.zip a b) st=I (.v .bB,k4 vs xs,st2):=(T6 ..).trans (bG aa (bz rfl (bG ab (bz rfl (if_pos hf)))))
theorem wz(aa:aj C a st=I (.v (.int i),st1))(hf:inR i=true):fi C (.range a) st=I (.v .bB,gM 0 i,st1):=(T7 ..).trans (bG aa (bz rfl (if_pos hf)))
theorem Io(aa:aj C a st=I (.v (.int i),st1))(ab:aj C b st1=I (.v (.int j),st2))(hf:(inR i&&inR j)=true):fi C (.lY a b) st=I (.v .bB,gM i j,st2):=(T8 ..).trans (bG aa (bz rfl (bG ab (bz rfl (if_pos hf)))))
theorem ri{elt:ao}(aa:fi C src st=I (.v v,vs,⟨lo,h,t,bs⟩)){dX:List (Option X)}(ab:fh aF (fun st=>I (true,st)) (fun st=>gN (aj C elt st)) vs (g9 aF ⟨lo,h,t,bs⟩)=I (aS,⟨dX,h',t',bs⟩)):aj C (.comp elt aF src) st=I (.v (.lst aS),⟨lo,h',t',bs⟩):=bz aa (bG ab (if_pos rfl))
theorem A7{elt:ao}(aa:fi C src st=I (.v v,vs,⟨lo,h,t,bs⟩)){dX:List (Option X)}(ab:fh aF (fun st=>hO (aj C c st)) (fun st=>gN (aj C elt st)) vs (g9 aF ⟨lo,h,t,bs⟩)=I (aS,⟨dX,h',t',bs⟩)):aj C (.r' elt aF src c) st=I (.v (.lst aS),⟨lo,h',t',bs⟩):=bz aa (bG ab (if_pos rfl))
theorem rj{elt:ao}(aa:hN aF u st=I st1)(ab:aj C elt st1=I (.v w,st2))(aq:fh aF (fun st=>I (true,st)) (fun st=>gN (aj C elt st)) vs st2=I (aS,i6)):fh aF (fun st=>I (true,st)) (fun st=>gN (aj C elt st)) (u::vs) st=I (w::aS,i6):=bz aa (bG rfl (rf (bG (bG ab rfl) (bG aq rfl))))
theorem wA{elt:ao}(aa:hN aF u st=I st1)(ah:aj C c st1=I (.v (.bool true),st1))(ab:aj C elt st1=I (.v w,st2))(aq:fh aF (fun st=>hO (aj C c st)) (fun st=>gN (aj C elt st)) vs st2=I (aS,i6)):fh aF (fun st=>hO (aj C c st)) (fun st=>gN (aj C elt st)) (u::vs) st=I (w::aS,i6):=bz aa (bG (bG ah rfl) (rf (bG (bG ab rfl) (bG aq rfl))))
theorem wB{elt:ao}(aa:hN aF u st=I st1)(ah:aj C c st1=I (.v (.bool false),st1))(aq:fh aF (fun st=>hO (aj C c st)) (fun st=>gN (aj C elt st)) vs st1=I (aS,i6)):fh aF (fun st=>hO (aj C c st)) (fun st=>gN (aj C elt st)) (u::vs) st=I (aS,i6):=bz aa (bG (bG ah rfl) ((if_neg (by decide)).trans aq))
def Wp(Q:R→St→Prop)(o:Option (R×St)):Prop:=∃r st,o=I (r,st)∧Q r st
variable{Q:R→St→Prop}
theorem pV{r:R}{o:Option (R×St)}(h:o=I (r,st))(q:Q r st):Wp Q o:=⟨r,st,h,q⟩
theorem w_eq{o br:Option (R×St)}(h:br=o)(q:Wp Q o):Wp Q br:=h▸q
theorem aa'{nh:R→St→Prop}{o:Option (R×St)}(h:Wp Q o)(i:∀r st,Q r st→nh r st):Wp nh o:=by obtain⟨r,st,e,q⟩:=h;exact⟨r,st,e,i r st q⟩
theorem aba{o:Option (R×St)}(h:∀nh:R→St→Prop,(∀r st,Q r st→nh r st)→Wp nh o):Wp Q o:=h Q fun ag ag q=>q
theorem rk(ar:let dX:=lo;Wp Q (bI C ss ⟨dX,h,t,bs⟩)):Wp Q (bI C ss ⟨lo,h,t,bs⟩):=ar
theorem mr(ah:iU C s st=I (.next,st1))(h:Wp Q (bI C ss st1)):Wp Q (bI C (.cons s ss) st):=w_eq (bG ah rfl) h
theorem dT(aa:aj C a st=I (x,⟨lo,h,t,bs⟩))(av:Wp Q (bI C ss ⟨lo.set n (I x),h,t,bs⟩)):Wp Q (bI C (.cons (.assign (.loc n) a) ss) st):=mr ((wk ..).trans (bG aa rfl)) av
theorem A8{c:Nat}{fs:List (Nat×X)}(aa:aj C a st=I (x,st1))(ab:aj C b st1=I (.cell m,⟨lo,h,t,bs⟩))(hm:h[m]? =I (.inst c fs))(aO:(iT c n&&((valOf x).isSome||decide (bs≤m)))=true)(av:Wp Q (bI C ss ⟨lo,h.set m (.inst c (fS n x fs)),t,bs⟩)):Wp Q (bI C (.cons (.assign (.attr b n) a) ss) st):=mr ((wk ..).trans (bG aa (eo ((Ih ..).trans (bG ab (bz rfl (bz (bz hm rfl) (if_pos aO))))) rfl))) av
theorem A9{cl cl':Cell}(aa:aj C a st=I (x,st1))(ab:aj C b st1=I (.cell m,st2))(aq:aj C c st2=I (.v v,⟨lo,h,t,bs⟩))(hm:h[m]? =I cl)(aO:pj (U (bs≤m)) cl v x=I cl')(av:Wp Q (bI C ss ⟨lo,h.set m cl',t,bs⟩)):Wp Q (bI C (.cons (.assign (.item b c) a) ss) st):=mr ((wk ..).trans (bG aa (eo ((Ii ..).trans (bG ab (bG aq (bz rfl (bz rfl (bz hm (eo aO rfl))))))) rfl))) av
theorem Ip{cl cl':Cell}(ab:aj C b st=I (.cell m,st1))(aq:aj C c st1=I (.v v,st2))(ba:st2.item (.cell m) (.v v)=I (.v (.int i)))(aa:aj C a st2=I (.v (.int j),⟨lo,h,t,bs⟩))(hm:h[m]? =I cl)(aO:pj (U (bs≤m)) cl v (.v (.int (i+j)))=I cl')(av:Wp Q (bI C ss ⟨lo,h.set m cl',t,bs⟩)):Wp Q (bI C (.cons (.pe b c a) ss) st):=mr ((T' ..).trans (bG ab (bG aq (bz (bz ba rfl) (bG aa (bz rfl (eo (bz rfl (bz rfl (bz hm (eo aO rfl)))) rfl))))))) av
theorem hl{ts:dI}(aa:dq C es st=I (l,st1))(ab:gb C ts l st1=I st2)(av:Wp Q (bI C ss st2)):Wp Q (bI C (.cons (.jU ts es) ss) st):=mr ((T9 ..).trans (bG aa (eo ab rfl))) av
theorem wC{ts:dI}(aa:aj C a st=I (.v (.tup vs),st1))(ab:gb C ts (vs.map .v) st1=I st2)(av:Wp Q (bI C ss st2)):Wp Q (bI C (.cons (.assign (.tup ts) a) ss) st):=mr ((wk ..).trans (bG aa (eo (bz rfl ab) rfl))) av
theorem A'(h0:st.loc[n]? =I (I (.v (.int i))))(aa:aj C a st=I (.v (.int j),⟨lo,h,t,bs⟩))(av:Wp Q (bI C ss ⟨lo.set n (I (.v (.int (i+j)))),h,t,bs⟩)):Wp Q (bI C (.cons (.aug n a) ss) st):=mr (bz (bz h0 rfl) (bG aa rfl)) av
theorem iz{d:Bool}{P cn:Prop}(hd:d=true)(h:P):cond d P cn:=by erw[hd];exact h
theorem Uu{d:Bool}{P cn:Prop}(hd:d=false)(h:cn):cond d P cn:=by erw[hd];exact h
theorem n3{d:Bool}{P cn:Prop}(aa:d=true→P)(ab:d=false→cn):cond d P cn:=by cases d;exact ab rfl;exact aa rfl
theorem ij{d:Bool}{s1 s2:bD}(ah:aj C c st=I (.v (.bool d),st1))(ay:app mq ss=s1)(au:app iG ss=s2)(h:cond d (Wp Q (bI C s1 st1)) (Wp Q (bI C s2 st1))):Wp Q (bI C (.cons (.ite c mq iG) ss) st):=by
 subst ay au;show Wp Q (aY (iU C (.ite c mq iG) st) _);erw[Ua,ah]
 match d,h with
 |true,h=>exact w_eq (AZ ..).symm h
 |false,h=>exact w_eq (AZ ..).symm h
def Uv(C:Calls)(Q:R→St→Prop)(ss:bD)(r:R)(st:St):Prop:=match r with
 | .ret x=>Q (.ret x) st
 | .next=>Wp Q (bI C ss st)
 | .cont=>False
theorem gW(aa:fi C src st=I (.v v,vs,st1))(ab:Wp (Uv C Q ss) (forL aF (bI C mq) vs st1)):Wp Q (bI C (.cons (.mK aF src mq) ss) st):=by
 refine eA fun cF=>?_;obtain⟨r,s2,e,q⟩:=ab;refine cF ?_;have aL:iU C (.mK aF src mq) st=I (r,s2):=bz aa (bz rfl e)
 induction r using R.casesOn with
 |next=>exact mr aL q
 |ret x=>exact pV (bG aL rfl) q
 |cont=>exact q.elim
theorem wD{w:bD}(ab:lZ (fun st=>hO (aj C c st)) (bI C w) 100 st=I (.next,st2))(av:Wp Q (bI C ss st2)):Wp Q (bI C (.cons (.sa c w) ss) st):=mr ab av
theorem hY(ah:aj C a st=I (x,st1))(h:Q (.ret x) st1):Wp Q (bI C (.cons (.ret a) ss) st):=pV (bG ((Ub ..).trans (bG ah rfl)) rfl) h
theorem oD(ah:aj C a st=I (x,st1))(h:Wp Q (bI C ss st1)):Wp Q (bI C (.cons (.expr a) ss) st):=mr ((Uc ..).trans (bG ah rfl)) h
theorem Uw(h:Q .cont st):Wp Q (bI C (.cons .cont ss) st):=pV rfl h
theorem Ux(h:Wp Q (bI C ss st)):Wp Q (bI C (.cons .pass ss) st):=h
theorem gh(h:Q .next st):Wp Q (bI C .nil st):=pV rfl h
theorem pW{bd:St→Option (R×St)}(h:Q .next st):Wp Q (forL aF bd [] st):=pV rfl h
theorem pX{bd:St→Option (R×St)}(aa:hN aF v st=I st1)(ab:Wp (fun r st=>jo r=false∧Wp Q (forL aF bd vs st)) (bd st1)):Wp Q (forL aF bd (v::vs) st):=by obtain⟨r,s2,e,q,g⟩:=ab;exact w_eq (bz aa (bG e (if_neg (by erw[q];decide)))) g
theorem abb{bd:St→Option (R×St)}(aa:hN aF v st=I st1)(ab:bd st1=I (.ret x,st2))(q:Q (.ret x) st2):Wp Q (forL aF bd (v::vs) st):=pV (bz aa (bG ab rfl)) q
theorem eY{e:List Cell}(k:Nat):(h++e)[h.length+k]? =e[k]? :=by erw[iR (f6 ..),iu]
theorem e7{e:List Cell}{c:Cell}(hm:h[m]? =I c):(h++e)[m]? =I c:=by erw[mD (d7.mp hm).1,hm]
theorem ni{e:List Cell}(k:Nat)(c:Cell):(h++e).set (h.length+k) c=h++e.set k c:=by erw[List.set_append_right _ _ (f6 ..),iu]
theorem Uy{jz:Cell}(aa:iy C es st=I (vs,⟨lo,h++[jz],t,bs⟩))(hf:fit vs.length=true):aj C (.jm es) st=I (.cell (h.length+1),⟨lo,h++[jz,.lst vs],t,bs⟩):=by erw[ng aa hf,b4,eR];rfl
theorem Uz{jz:Cell}{ee:List Cell}(aa:aj C a st=I (.cell (h.length+1),st1))(ar:st1.lst (h.length+1)=I aS)(ab:aj C b st1=I (.v v,⟨lo,h++jz:: .lst xs::ee,t,bs⟩))(hf:fit xs.length=true):aj C (.append a b) st=I (.v .bB,⟨lo,h++jz:: .lst (xs++[v])::ee,t,bs⟩):=by erw[A5 aa ar ab (gV (eY 1)) hf];have e:(h++jz:: .lst xs::ee).set (h.length+1) (.lst (xs++[v]))=h++jz:: .lst (xs++[v])::ee:=ni 1 _;erw[e]
theorem UA{m:Nat}(ar:st.lst m=I xs)(hf:fit xs.length=true):hP .tuple st [.cell m]=I (.v (.tup xs),st):=bz (bz (eo ar rfl) rfl) (eo (bz rfl (bz rfl (if_pos hf))) rfl)
theorem Ba{T:St→Option (Bool×St)}{bd:St→Option (R×St)}(aa:T st=I (false,st1)):lZ T bd (n+1) st=I (.next,st1):=bG aa rfl
theorem Iq{T:St→Option (Bool×St)}{bd:St→Option (R×St)}{q:Option (R×St)}(aa:T st=I (true,st1))(ab:bd st1=I (rr,st2))(av:jo rr=false)(aq:lZ T bd n st2=q):lZ T bd (n+1) st=q:=bG aa (rf (bG ab ((if_neg (by erw[av];decide)).trans aq)))
theorem tE(aa:aj C a st=I (.v (.bool p),st1)):hO (aj C a st)=I (p,st1):=bG aa rfl
theorem UB{cl cl':Cell}{ee:List Cell}(ab:aj C b st=I (.cell h.length,st1))(aq:aj C c st1=I (.v v,st2))(ba:st2.item (.cell h.length) (.v v)=I (.v (.int i)))(aa:aj C a st2=I (.v (.int j),⟨lo,h++cl::ee,t,bs⟩))(aO:pj (U (bs≤h.length)) cl v (.v (.int (i+j)))=I cl')(av:Wp Q (bI C ss ⟨lo,h++cl'::ee,t,bs⟩)):Wp Q (bI C (.cons (.pe b c a) ss) st):=Ip ab aq ba aa (eY 0) aO (by have e:(h++cl::ee).set h.length cl'=h++cl'::ee:=ni 0 _;erw[e];exact av)
theorem i7{bd:St→Option (R×St)}(cc:List V→St→Prop)(ae:∀v vs st,cc (v::vs) st→∀nh:R→St→Prop,(∀r st,jo r=false→cc vs st→nh r st)→(∀r st,jo r=true→Q r st→nh r st)→∃st1,hN aF v st=I st1∧Wp nh (bd st1))(he:∀st,cc [] st→Q .next st):∀(vs:List V) (st:St),cc vs st→Wp Q (forL aF bd vs st):=by
 intro aT
 induction aT with
 |nil=>intro st h;exact pW (he st h)
 |cons v vs aD=>intro st h;obtain⟨st1,ay,r,s2,au,q⟩:=ae v vs st h (fun r st=>(jo r=true∧Q r st)∨(jo r=false∧cc vs st)) (fun ag ag e i=>.inr ⟨e,i⟩) fun ag ag e i=>.inl ⟨e,i⟩;exact q.elim (fun q=>pV (bz ay (bG au (if_pos q.1))) q.2) fun q=>w_eq (bz ay (bG au (if_neg (by erw[q.1];decide)))) (aD s2 q.2)
theorem UC{ee:List Cell}(aa:aj C a st=I (.cell h.length,st1))(ar:st1.lst h.length=I aS)(ab:aj C b st1=I (.v v,⟨lo,h++ .lst xs::ee,t,bs⟩))(hf:fit xs.length=true):aj C (.append a b) st=I (.v .bB,⟨lo,h++ .lst (xs++[v])::ee,t,bs⟩):=by erw[A5 aa ar ab (gV (eY 0)) hf];have e:(h++ .lst xs::ee).set h.length (.lst (xs++[v]))=h++ .lst (xs++[v])::ee:=ni 0 _;erw[e]
theorem rl:gb C .nil [] st=I st:=rfl
theorem UD{ts:dI}(av:gb C ts l ⟨lo.set n (I x),h,t,bs⟩=I st2):gb C (.cons (.loc n) ts) (x::l) ⟨lo,h,t,bs⟩=I st2:=bz rfl (bz rfl av)
theorem fD{k:Nat}:hN (.one k) v ⟨lo,h,t,bs⟩=I ⟨lo.set k (I (.v v)),h,t,bs⟩:=rfl
theorem tF{k jt:Nat}:hN (.many [k,jt]) (.tup [v,u]) ⟨lo,h,t,bs⟩=I ⟨(lo.set k (I (.v v))).set jt (I (.v u)),h,t,bs⟩:=rfl
theorem UE{k jt Ir:Nat}:hN (.many [k,jt,Ir]) (.tup [v,u,w]) ⟨lo,h,t,bs⟩=I ⟨((lo.set k (I (.v v))).set jt (I (.v u))).set Ir (I (.v w)),h,t,bs⟩:=rfl
theorem Bb{ts:dI}{c:Nat}{fs:List (Nat×X)}(ab:aj C b st=I (.cell m,⟨lo,h,t,bs⟩))(hm:h[m]? =I (.inst c fs))(aO:(iT c n&&((valOf x).isSome||decide (bs≤m)))=true)(av:gb C ts l ⟨lo,h.set m (.inst c (fS n x fs)),t,bs⟩=I st2):gb C (.cons (.attr b n) ts) (x::l) st=I st2:=bz rfl (bz ((Ih ..).trans (bG ab (bz rfl (bz (bz hm rfl) (if_pos aO))))) av)
theorem Bc{ts:dI}{cl cl':Cell}(ab:aj C b st=I (.cell m,st1))(aq:aj C c st1=I (.v v,⟨lo,h,t,bs⟩))(hm:h[m]? =I cl)(aO:pj (U (bs≤m)) cl v x=I cl')(av:gb C ts l ⟨lo,h.set m cl',t,bs⟩=I st2):gb C (.cons (.item b c) ts) (x::l) st=I st2:=bz rfl (bz ((Ii ..).trans (bG ab (bG aq (bz rfl (bz rfl (bz hm (eo aO rfl))))))) av)
def tG(f:Nat):Option (Nat×Nat×List V×Bool):=(bl f).map fun g=>(g.np,g.ns,g.dflt,g.rc)
def Out(rc:Bool)(h:List Cell)(o:X×List Cell×Nat)(r:R)(st:St):Prop:=l3 h.length h.length st=true∧sl rc h.length (k8 r) st=I o
theorem UG{n np ns:Nat}{df:List V}{rc:Bool}{o:X×List Cell×Nat}{B:bD}(hm:tG f=I (np,ns,df,rc))(ae:body f=B)(ar:U (l.length≤np∧np≤l.length+df.length)=true)(rm:qK ⟨np,ns,df,rc,.nil⟩ l=lo)(run:Wp (Out rc h o) (bI (bu bl n) B ⟨lo,h,t,h.length⟩)):bu bl (n+1) f l h t h.length=I o:=by
 subst ae rm;unfold tG at hm;unfold body at run;cases fV:bl f with
 |none=>replace hm:=fV▸hm;injections hm
 |some F=>
  rw[fV]at hm run
  injections hm
  obtain⟨r,st,e,eu,gc⟩:=run;exact bz fV ((if_pos (of_decide_eq_true ar)).trans (bG e ((if_pos eu).trans gc)))
theorem tH{e:List Cell}:l3 h.length h.length ⟨lo,h++e,t,h.length⟩=true:=by unfold l3;simp only[decide_true,lU,Bool.true_or,LZ,b4,decide_eq_true_eq];exact f6 ..
theorem It:l3 h.length h.length ⟨lo,h,t,h.length⟩=true:=by
 have:=tH (lo:=lo) (h:=h) (t:=t) (e:=[])
 rwa [ei]at this
theorem dN{rc:Bool}(aJ:v=u):Out rc h (.v u,h,t) (.ret (.v v)) ⟨lo,h,t,h.length⟩:=by subst aJ;exact⟨It,by show I (X.v v,h.take h.length,t)=_;erw[o7]⟩
theorem UH{rc:Bool}(ar:h'.length=h.length):Out rc h (.v .bB,h',t) .next ⟨lo,h',t,h.length⟩:=by
 refine⟨?_,?_⟩
 ·unfold l3;erw[ar];simp only[decide_true,lU,Bool.true_or,bE]
 ·show I (X.v V.bB,h'.take h.length,t)=_;erw[←ar,o7]
theorem UI{rc:Bool}:Out rc h (.v .bB,h,t) .next ⟨lo,h,t,h.length⟩:=⟨It,by show I (X.v V.bB,h.take h.length,t)=_;erw[o7]⟩
theorem nj{rc:Bool}{e:List Cell}(aJ:v=u):Out rc h (.v u,h,t) (.ret (.v v)) ⟨lo,h++e,t,h.length⟩:=by subst aJ;exact⟨tH,by show I (X.v v,(h++e).take h.length,t)=_;erw[rZ]⟩
theorem wF{e:List Cell}(k:Nat)(he:e[k]? =I (.lst xs))(aJ:xs=aS):Out false h (.v (.lst aS),h,t) (.ret (.cell (h.length+k))) ⟨lo,h++e,t,h.length⟩:=by subst aJ;refine⟨tH,?_⟩;show(if h.length≤h.length+k then _ else J)=_;erw[if_pos (f6 ..),eY,he];show I (X.v (V.lst xs),(h++e).take h.length,t)=_;erw[rZ]
theorem UJ{c:Nat}{fs:List (Nat×X)}(aa:aj C a st=I (x,⟨lo,h++[.inst c fs],t,bs⟩))(ab:aj C b ⟨lo,h++[.inst c fs],t,bs⟩=I (.cell h.length,⟨lo,h++[.inst c fs],t,bs⟩))(aO:(iT c n&&((valOf x).isSome||decide (bs≤h.length)))=true)(av:Wp Q (bI C ss ⟨lo,h++[.inst c (fS n x fs)],t,bs⟩)):Wp Q (bI C (.cons (.assign (.attr b n) a) ss) st):=A8 aa ab (eY 0) aO (by have e:(h++[Cell.inst c fs]).set h.length (.inst c (fS n x fs))=h++[.inst c (fS n x fs)]:=ni 0 _;erw[e];exact av)
def UK(c:Nat)(h:List Cell)(fs:List (Nat×X))(t:Nat)(r:R)(st:St):Prop:=k8 r= .v .bB∧∃lo,st=⟨lo,h++[.inst c fs],t,h.length⟩
theorem abc{n c f t' np ns:Nat}{df:List V}{rc:Bool}{fs:List (Nat×X)}{B:bD}(hm:tG f=I (np,ns,df,rc))(ae:body f=B)(ar:U ((X.cell h.length::l).length≤np∧np≤(X.cell h.length::l).length+df.length)=true)(rm:qK ⟨np,ns,df,rc,.nil⟩ (.cell h.length::l)=lo)(av:uV (h.length+1) fs=true)(run:Wp (UK c h fs t') (bI (bu bl n) B ⟨lo,h++[.inst c []],t,h.length⟩)):bu bl (n+1) f (.cell h.length::l) (h++[.inst c []]) t h.length=I (.v .bB,h++[.inst c fs],t'):=by
 subst ae rm;unfold tG at hm;unfold body at run;cases fV:bl f with
 |none=>replace hm:=fV▸hm;injections hm
 |some F=>
  rw[fV]at hm run
  injections hm
  obtain⟨r,st,e,eu,lo,rfl⟩:=run;refine bz fV ((if_pos (of_decide_eq_true ar)).trans (bG e ((if_pos ?_).trans ?_)))
  ·unfold l3;simp only[decide_true,lU,qv,uy,b4,gA,CY,bE,nN];exact .inr (by erw[show(h++[Cell.inst c fs])[h.length]? =_ from eY 0];exact av)
  ·erw[eu];show I (X.v V.bB,(h++[Cell.inst c fs]).take (h++[Cell.inst c []]).length,t')=_;erw[show(h++[Cell.inst c []]).length=(h++[Cell.inst c fs]).length by erw[b4,b4];rfl,o7]
end
end Mine.L
end
section
open PySem PySem.W
set_option maxRecDepth 100000
namespace Mine.L
local macro_rules | `(tactic| repeat1' $t:tacticSeq) => pure (Mine.evm "a9/ aP/f cV/ dj/ bH/RR bA/RR nf/RR oB/RR oC/RRF Ij/RRD wm/RRD wo/R wq/R lz/RR Ik/RIR tA/RF rg/RR Il/RIR Ud/RF tB/R wu/R mn/RR Ue/RR wt/RR A0/RR pT/RR rh/RR Ug/RRR Uh/RRR Ui/RRR A3/RRR Uj/RRR A2/RIRIR Im/RIRIR hi/Rf tC/RTf hj/RRF gy/RRTF eX/RF hX/RF fY/RF lA/Rtff Uy/RF ng/RF wx/RffF wy/ UC/RaRt Uz/RbRt Um/RfRt fo/Rt hW/RRF j4/RRffF" t t)
local macro_rules | `(tactic| iterate $t:tacticSeq) => pure (Mine.evm "dT/RS A'/fRS oD/RS hY/R UJ/RRFS A8/RRTfS A9/RRRTFS UB/RRtRTS Ip/RRtRTTS hl/RSS wC/RUS UD/S rl/ ij/RddX Uw/ gh/ Ux/S" t (Mine.sq []))
local macro_rules | `(tactic| symm_saturate) => pure (Mine.rp "a n0 n0 a a a 1TConv.lhs a a 1TConv.reduce a a a a n0 1ToptConfig n0 a n1 a n0 n0 @Int.reduceOfNat 3TsimpLemma a n0 n0 @Int.reduceNegSucc 3TsimpLemma n3 a n3 5TConv.simp n1 1TConv.convSeq1Indented 1TConv.convSeq 2TConv.convTry_ n1 1TConv.convSeq1Indented 1TConv.convSeq a 3TConv.paren n5 1TConv.convSeq1Indented 1TConv.convSeq a 3TConv.paren n1 1TConv.convSeq1Indented 1TConv.convSeq 5TConv.conv" [])
local macro_rules | `(tactic| bv_omega) => pure (Mine.rp "a n0 1ToptConfig n0 a n1 a n0 n0 @qK 3TsimpLemma a n0 n0 @gA 3TsimpLemma a n0 n0 @CY 3TsimpLemma a n0 n0 @List.drop 3TsimpLemma a n0 n0 @List.map 3TsimpLemma a n0 n0 @app 3TsimpLemma a n0 n0 @List.append 3TsimpLemma a n0 n0 @xM 3TsimpLemma a n0 n0 @xP 3TsimpLemma a n0 n0 @nQ 3TsimpLemma a n0 n0 @Nat.reduceSub 3TsimpLemma a n0 n0 @Nat.reduceAdd 3TsimpLemma nG a n3 n0 6Tdsimp" [])
local macro_rules | `(tactic| ac_rfl) => pure (Mine.rp "a a @UG a a 1TsymmSaturate s1 2MbyTactic a a 1TsymmSaturate s1 2MbyTactic @rfl a a 1TtacticBv_omega s1 2MbyTactic a a 2MsyntheticHole n5 2Mapp 2Trefine s1 a 3Tparen" [])
local macro_rules | `(tactic| and_intros) => pure (Mine.rp "a a @abc a a 1TsymmSaturate s1 2MbyTactic a a 1TsymmSaturate s1 2MbyTactic @rfl a a 1TtacticBv_omega s1 2MbyTactic a a 2MsyntheticHole a a 2MsyntheticHole n6 2Mapp 2Trefine a a a @rfl 2Texact s1 2TtacticTry_ s3 a 3Tparen" [])
section
variable{n t:Nat}{h:List Cell}{i j k:Int}
theorem j5{a:Int}(h: -4611686018427387904<a)(ab:a<4611686018427387904):small a=true:=by unfold small;exact cC.mpr ⟨decide_eq_true h,decide_eq_true ab⟩
theorem oE:bu bl (n+1) 0 [.v (.int i),.v (.int j),.v (.int k)] h t h.length=I (.v (.bool (U (j≤i)&&U (i≤k))),h,t):=by
 ac_rfl
 iterate fail
 exact dN rfl
theorem Iu:bu bl (n+1) 1 [.v (.int i)] h t h.length=I (.v (.int i),h,t):=by
 ac_rfl
 iterate fail
 exact dN rfl
theorem wG(aa: -2147483647≤i)(ab:i≤2147483647):bu bl (n+2) 2 [.v (.int i)] h t h.length=I (.v (.int i),h,t):=by
 ac_rfl
 iterate (exact Iu)
 ·intro h;rw[decide_eq_true aa,decide_eq_true ab]at h;injections h
 intro _
 iterate fail
 exact dN rfl
theorem UL(aa: -1073741823≤i)(ab:i≤1073741823):bu bl (n+2) 3 [.v (.int i)] h t h.length=I (.v (.int i),h,t):=by
 ac_rfl
 iterate (exact Iu)
 ·intro h;rw[decide_eq_true aa,decide_eq_true ab]at h;injections h
 intro _
 iterate fail
 exact dN rfl
noncomputable def eJ(e t:Int):Int:=bif U (e=0)then 0 else bif U (t≤0)then 10000 else bif U ((e*297).fdiv t>1290)then 10000 else((e*297).fdiv t*(e*297).fdiv t*(e*297).fdiv t+131072).fdiv 262144
theorem Iv{e w:Int}(he:0≤e)(abd:e≤7230584)(hw:w<1000000000):bu bl (n+1) 4 [.v (.int e),.v (.int w)] h t h.length=I (.v (.int (eJ e w)),h,t):=by
 ac_rfl
 iterate fail
 ·intro aa;have:=of_decide_eq_true aa;exact absurd ‹_› (ez.mpr ‹_›)
 intro _
 iterate fail
 ·intro aa
  iterate fail
  refine dN ?_;simp only[eJ,aa,cond_true]
 intro aa
 iterate fail
 ·intro ab
  iterate fail
  refine dN ?_;simp only[eJ,aa,ab,cond_true,cond_false]
 intro ab;have Iw:=of_decide_eq_false ab;have a5:=j5 (Mf ‹_› rfl) (d3 ‹_› rfl);have kK:0≤(e*297).fdiv w:=by erw[r0 _ (by lia)];exact CZ (by lia) (by lia)
 iterate fail
 ·intro aq
  iterate (first|(erw[qv];exact .inr rfl)|(erw[a5];lia))
  ·intro ba
   iterate fail
   refine dN ?_;simp only[eJ,aa,ab,ba,cond_true,cond_false]
  ·intro ba;have eu:=of_decide_eq_false ba;have aL:=j5 (d0 ‹_› rfl) (C' ‹_› rfl)
   iterate (erw[qv];exact .inr aL)
   refine dN ?_;simp only[eJ,aa,ab,ba,cond_true,cond_false]
 ·intro aq;have:=of_decide_eq_false aq;lia
end
section
variable{n t:Nat}{h:List Cell}
structure bb where
 (w s o k:Int)
noncomputable def bb.fs(g:bb):List (Nat×V):=[(1,.int g.w),(2,.int g.s),(3,.int g.o),(4,.int g.k),(5,.int 0)]
noncomputable def iH(g:bb):V:=.obj J 0 g.fs
noncomputable def lB(l:List (Nat×V)):List (Nat×X):=l.map fun p=>(p.1,.v p.2)
def i8(i:Int):Prop:= -1073741823≤i∧i≤1073741823
theorem kL{i:Int}(aw:i8 i):bu bl (n+2) 3 [.v (.int i)] h t h.length=I (.v (.int i),h,t):=UL aw.1 aw.2
theorem wH:i8 0:=⟨by decide,by decide⟩
theorem UM{w s o k:Int}(hw:i8 w)(aL:i8 s)(aO:0≤o∧o≤3)(ai:i8 k)(bw:s=0→o=0):
  bu bl (n+3) (gC 0) [.cell h.length,.v (.int w),.v (.int s),.v (.int o),.v (.int k),.v (.int 0)] (h++[.inst 0 []]) t h.length=I (.v .bB,h++[.inst 0 (lB (bb.fs ⟨w,s,o,k⟩))],t):=by
 and_intros
 iterate (exact oE)
 ·intro aa;rw[decide_eq_true aO.1,decide_eq_true aO.2]at aa;injections aa
 intro _
 iterate (first|exact kL hw|exact kL aL|exact kL ai)
 have ay:(bif !U (k=0)then(0:Int)else 0)=0:=by cases U (k=0)<;>rfl
 have au:(bif !U (s=0)then o else 0)=o:=by
  refine bZ (fun e:s=0=>?_) (fun e=>?_)
  ·erw[bw e];cases U (s=0)<;>rfl
  ·erw[decide_eq_false e];rfl
 exact⟨rfl,_,by erw[ay,au];rfl⟩
theorem Iy:bu bl (n+3) (gC 0) [.cell h.length] (h++[.inst 0 []]) t h.length=I (.v .bB,h++[.inst 0 (lB (bb.fs ⟨0,0,0,0⟩))],t):=by
 and_intros
 iterate (first|with_reducible exact oE|exact kL wH)
 exact⟨rfl,_,rfl⟩
theorem abe{i j k:Int}{fs:Cell}:bu bl (n+1) 0 [.v (.int i),.v (.int j),.v (.int k)] (h++[fs]) t (h++[fs]).length=I (.v (.bool (U (j≤i)&&U (i≤k))),h++[fs],t):=oE
noncomputable def Bd(w:Int):List (Nat×V):=[(6,.int 2),(1,.int w),(7,.int 0),(8,.int 0),(9,.lst []),(10,.int 0),(11,.int 0),(12,.int 0),(13,.tup [.int 0,.int 1])]
theorem UN{w:Int}(hw:i8 w):bu bl (n+3) (gC 1) [.cell h.length,.v (.int 2),.v (.int w),.v (.int 0),.v (.int 0),.v (.lst [])] (h++[.inst 1 []]) t h.length=I (.v .bB,h++[.inst 1 (lB (Bd w))],t):=by
 and_intros
 iterate (first|with_reducible exact oE|exact kL hw|exact kL wH)
 exact⟨rfl,_,rfl⟩
noncomputable def Iz(w s:Int):List (Nat×V):=[(1,.int w),(14,.int s)]
theorem UO{w s:Int}(hw:i8 w)(aL:0≤s∧s≤3):bu bl (n+3) (gC 2) [.cell h.length,.v (.int w),.v (.int s)] (h++[.inst 2 []]) t h.length=I (.v .bB,h++[.inst 2 (lB (Iz w s))],t):=by
 and_intros
 iterate (exact oE)
 ·intro aa;rw[decide_eq_true aL.1,decide_eq_true aL.2]at aa;injections aa
 intro _
 iterate (exact kL hw)
 exact⟨rfl,_,rfl⟩
noncomputable def IA(g:bb):List (Nat×V):=[(15,iH g),(14,.int 0),(16,.bB)]
theorem UP{g:bb}:bu bl (n+2) (gC 3) [.cell h.length,.v (iH g),.v (.int 0)] (h++[.inst 3 []]) t h.length=I (.v .bB,h++[.inst 3 (lB (IA g))],t):=by
 and_intros
 iterate (with_reducible exact oE)
 exact⟨rfl,_,rfl⟩
noncomputable def IB(v:Int):List (Nat×V):=[(17,.int v)]
theorem UQ{v:Int}(aJ: -2147483647≤v∧v≤2147483647):bu bl (n+3) (gC 4) [.cell h.length,.v (.int v)] (h++[.inst 4 []]) t h.length=I (.v .bB,h++[.inst 4 (lB (IB v))],t):=by
 and_intros
 iterate (exact wG aJ.1 aJ.2)
 exact⟨rfl,_,rfl⟩
theorem UR:bu bl (n+3) (gC 6) [.cell h.length,.v (.lst [])] (h++[.inst 6 []]) t h.length=I (.v .bB,h++[.inst 6 (lB [(21,.tup [])])],t):=by
 and_intros
 iterate fail
 exact⟨rfl,_,rfl⟩
noncomputable def fv(p:Nat×Int):V:=.obj (I p.1) 1 (Bd p.2)
theorem US{C:Calls}{Q:R→St→Prop}{a x y z:Option X}:∀(l:List (Nat×Int)) (u:Option X),(∀u,Q .next ⟨[a,u,x,y,z],h,t,h.length⟩)→Wp Q (forL (.one 1) (bI C (.cons (.ite (.cmp (.attr (.loc 1) 6) .gt (.const (.int 5))) (.cons .raise .nil) .nil) .nil)) (l.map fv) ⟨[a,u,x,y,z],h,t,h.length⟩):=by
 intro aT
 induction aT with
 |nil=>intro u aE;exact pW (aE u)
 |cons p l aD=>
  intro u aE;refine pX rfl ?_
  iterate fail
  exact⟨rfl,aD _ aE⟩
theorem Be{l:List (Nat×Int)}(hf:fit (l.map fv).length=true):bu bl (n+1) 6 [.v (.lst (l.map fv))] h t h.length=I (.v (.lst (l.map fv)),h,t):=by
 ac_rfl
 refine gW (hk (by repeat1' fail) rfl hf) ?_;refine US l _ fun u=>?_;show Wp _ _
 iterate fail
 exact dN rfl
noncomputable abbrev i9:=List (Nat×Int)
noncomputable def IC(a b m:i9):List (Nat×V):=[(18,.lst (a.map fv)),(19,.lst (b.map fv)),(20,.lst (m.map fv))]
theorem UT{a b m:i9}(aB:fit (a.map fv).length=true)(ae:fit (b.map fv).length=true)(hm:fit (m.map fv).length=true):bu bl (n+2) (gC 5) [.cell h.length,.v (.lst (a.map fv)),.v (.lst (b.map fv)),.v (.lst (m.map fv))] (h++[.inst 5 []]) t h.length=I (.v .bB,h++[.inst 5 (lB (IC a b m))],t):=by
 and_intros
 iterate (first|exact Be aB|exact Be ae|exact Be hm)
 exact⟨rfl,_,rfl⟩
end
section
variable{n t:Nat}{h:List Cell}
inductive aI where
 |box (t:Nat) (w:Int)|gX (t:Nat) (w s:Int)|skip (t:Nat) (g:bb)|b9 (t:Nat) (v:Int)|cf (t:Nat) (a b m:i9)|mark (t:Nat)
noncomputable def aI.ctorIdx(x:aI):Nat:=aI.casesOn x (fun ag ag=>0) (fun ag ag ag=>1) (fun ag ag=>2) (fun ag ag=>3) (fun ag ag ag ag=>4) (fun ag=>5)
noncomputable def enc:aI→V
 | .box t w=>.obj (I t) 1 (Bd w)
 | .gX t w s=>.obj (I t) 2 (Iz w s)
 | .skip t g=>.obj (I t) 3 (IA g)
 | .b9 t v=>.obj (I t) 4 (IB v)
 | .cf t a b m=>.obj (I t) 5 (IC a b m)
 | .mark t=>.obj (I t) 6 [(21,.tup [])]
noncomputable def fp:aI→Bool
 | .gX _ _ s=>decide (s=1)
 | .skip .. =>true
 | .b9 .. =>true
 |_=>false
theorem i'{it:aI}:bu bl (n+1) 21 [.v (enc it)] h t h.length=I (.v (.bool (fp it)),h,t):=by
 cases it
 all_goals ac_rfl
 all_goals iterate fail
 all_goals exact dN rfl
noncomputable def Bf:aI→Int
 | .box _ w=>w
 | .gX _ w _=>w
 | .skip _ g=>g.w
 |_=>0
noncomputable def lC:aI→Bool
 | .cf .. =>true
 |_=>false
theorem ID{it:aI}(hd:lC it=false):bu bl (n+1) 13 [.v (enc it)] h t h.length=I (.v (.int (Bf it)),h,t):=by
 cases it<;>first|cases hd|skip
 all_goals ac_rfl
 all_goals iterate fail
 all_goals exact dN rfl
theorem UU{C:Calls}{Q:R→St→Prop}{a x y z:Option X}{bs:Nat}(lp:∀p:Nat×Int,C 13 [.v (fv p)] h t h.length=I (.v (.int p.2),h,t)):∀(l:i9) (i:Int) (u:Option X),(∀u,Q .next ⟨[a,I (.v (.int (i+(l.map (·.2)).sum))),u,x,y,z],h,t,bs⟩)→Wp Q (forL (.one 2) (bI C (.cons (.aug 1 (.call 13 (.cons (.loc 2) .nil))) .nil)) (l.map fv) ⟨[a,I (.v (.int i)),u,x,y,z],h,t,bs⟩):=by
 intro aT
 induction aT with
 |nil=>intro i u aE;exact pW (by have:=aE u;rwa [xU,List.sum_nil,eP]at this)
 |cons p l aD=>
  intro i u aE;refine pX rfl ?_
  iterate (exact lp p)
  refine⟨rfl,aD (i+p.2) _ fun u=>?_⟩;have:=aE u
  rwa [g0,xO,←qx]at this
noncomputable def dU(l:i9):Int:=(l.map (·.2)).sum
theorem Bg{l:i9}(hf:fit (l.map fv).length=true):bu bl (n+2) 25 [.v (.lst (l.map fv))] h t h.length=I (.v (.int (dU l)),h,t):=by
 ac_rfl
 iterate fail
 refine gW (hk (by repeat1' fail) rfl hf) ?_;refine UU (fun p=>ID (it:=.box p.1 p.2) rfl) l 0 _ fun u=>?_;show Wp _ _
 iterate fail
 exact dN (by rw[ko];rfl)
noncomputable def IE(z:Int):List (Nat×V):=[(1,.int z),(24,.int 0),(25,.int z),(26,.int 1),(27,.tup []),(28,.int 0)]
def pY(z:Int):V:=.obj J 7 (IE z)
theorem UW{z:Int}(bw:i8 z):bu bl (n+3) (gC 7) [.cell h.length,.v (.int z)] (h++[.inst 7 []]) t h.length=I (.v .bB,h++[.inst 7 (lB (IE z))],t):=by
 and_intros
 have UX:i8 (z-((0:Int).natAbs:Int)):=by rwa [show z-((0:Int).natAbs:Int)=z from rS z]
 iterate (first|with_reducible exact kL bw|with_reducible exact kL wH|with_reducible exact kL UX|with_reducible exact wG (by decide) (by decide)|((with_reducible apply ri);(with_reducible apply hk);(repeat1' fail);exact rfl;exact rfl;exact rfl)|with_reducible exact oE)
 exact⟨rfl,_,by erw[Int.natAbs_zero,show z-((0:Nat):Int)=z from rS z];rfl⟩
theorem UY{z:Int}:bu bl (n+1) 15 [.v (pY z)] h t h.length=I (.v (.int 0),h,t):=by
 ac_rfl
 iterate fail
 exact dN rfl
theorem UZ{z i:Int}(aa:1≤i)(ab:i≤4294967294):bu bl (n+2) 16 [.v (pY z),.v (.int i)] h t h.length=I (.v (.tup [.int 0,.int z]),h,t):=by
 ac_rfl
 iterate (exact oE)
 ·intro aq;rw[decide_eq_true aa,decide_eq_true (show i≤2*2147483647 from ab)]at aq;injections aq
 intro _
 iterate fail
 exact dN rfl
structure cj where
 (cS hp dV cu loose:Int)
 (ls rs:bb)
noncomputable def cj.fs(S:cj):List (Nat×X):=[(29,.v (.int 0)),(30,.v (.int 10000)),(31,.v (.int S.cS)),(32,.v (.int S.hp)),(33,.v (.int S.hp)),(34,.v (.int S.cu)),(35,.v (.int S.dV)),(36,.v (.int 0)),(37,.v (.int S.loose)),(38,.v (.int 0)),(39,.v (iH S.ls)),(40,.v (iH S.rs))]
noncomputable def cj.cell(S:cj):Cell:=.inst 8 S.fs
noncomputable def wI:cj:=⟨0,0,0,0,0,⟨0,0,0,0⟩,⟨0,0,0,0⟩⟩
theorem IF:bu bl (n+4) (gC 8) [.cell h.length] (h++[.inst 8 []]) t h.length=I (.v .bB,h++[.inst 8 wI.fs],t):=by
 and_intros
 iterate (with_reducible exact Iy)
 exact⟨rfl,_,rfl⟩
def Num(i:Int):Prop:= -2147483647≤i∧i≤2147483647
theorem U0{C:Calls}{Q:R→St→Prop}{a x y z:Option X}{bs:Nat}(lp:∀{i:Int},Num i→C 2 [.v (.int i)] h t h.length=I (.v (.int i),h,t)):∀(l:List Int) (u:Option X),(∀i,i∈l→Num i)→(∀u,Q .next ⟨[a,u,x,y,z],h,t,bs⟩)→Wp Q (forL (.one 1) (bI C (.cons (.expr (.call 2 (.cons (.loc 1) .nil))) .nil)) (l.map .int) ⟨[a,u,x,y,z],h,t,bs⟩):=by
 intro aT
 induction aT with
 |nil=>intro u _ aE;exact pW (aE u)
 |cons i l aD=>
  intro u ar aE;refine pX rfl ?_
  iterate (exact lp (ar i (.head _)))
  exact⟨rfl,aD _ (fun j a'=>ar j (.tail _ a')) aE⟩
structure Bh(S:cj):Prop where
 cS:Num S.cS
 hp:Num S.hp
 dV:Num S.dV
 cu:Num S.cu
 loose:Num S.loose
theorem U1{S:cj}{s:Nat}(fM:Bh S)(aL:h[s]? =I S.cell):bu bl (n+3) 20 [.cell s] h t h.length=I (.v .bB,h,t):=by
 ac_rfl
 refine gW (hk (by repeat1' (exact aL)) rfl rfl) ?_;refine U0 (fun aw=>wG aw.1 aw.2) [0,10000,S.cS,S.hp,S.hp,S.cu,S.dV,0,S.loose] _ ?_ fun u=>?_
 ·have h0:Num 0:=⟨by decide,by decide⟩
  simp only[LO,kZ,false_implies,implies_true,and_true];exact⟨h0,⟨by decide,by decide⟩,fM.cS,fM.hp,fM.hp,fM.cu,fM.dV,h0,fM.loose⟩
 ·show Wp _ _
  iterate (first|with_reducible exact kL wH|exact aL)
  exact UI
def lD(s:Nat)(z most:Int)(g:V)(last:Bool)(apart:Int):List (Nat×X):=[(46,.cell s),(47,.v (pY z)),(48,.v (.int most)),(49,.v g),(50,.v (.bool last)),(51,.v (.int apart))]
noncomputable def jC(S:cj):Int:=bif U (S.loose=0)then 0 else 4294967294
theorem U2{S:cj}{s:Nat}{z most:Int}{g:V}{last:Bool}(aL:h[s]? =I S.cell):bu bl (n+3) (gC 10) [.cell h.length,.cell s,.v (pY z),.v (.int most),.v g,.v (.bool last)] (h++[.inst 10 []]) t h.length=I (.v .bB,h++[.inst 10 (lD s z most g last (jC S))],t):=by
 and_intros
 ·show(U (s<h.length+1)&&true)=true;erw[decide_eq_true (lO (d7.mp aL).1)];rfl
 iterate (first|with_reducible exact UY|exact e7 aL|(erw[decide_eq_true (bE _)];rfl))
 exact⟨rfl,_,rfl⟩
end
section
variable{n t:Nat}{h:List Cell}
theorem IG{s b:V}{l f d:Int}:bu bl (n+1) (gC 9) [.cell h.length,.v s,.v (.int l),.v (.int f),.v (.int d),.v b] (h++[.inst 9 []]) t h.length=I (.v .bB,h++[.inst 9 (lB [(41,s),(42,.int l),(43,.int f),(44,.int d),(45,b)])],t):=by
 and_intros
 iterate fail
 exact⟨rfl,_,rfl⟩
theorem dO{n:Nat}(h:n≤100000):fit n=true:=decide_eq_true h
theorem fZ{α β:Type}{l:List α}{f:α→β}{k:Nat}(h:l.length≤k)(ai:k≤100000):fit (l.map f).length=true:=dO ((bF f).symm▸bR h ai)
theorem item_at{vs:List V}{w:V}{k:Nat}{j:Int}(aK:vs[k]? =I w)(a':j=(k:Int))(ai:k≤100000):gL (.lst vs) (.int j)=I w:=by subst a';refine bz rfl (bz rfl (bz (a:=k) ?_ aK));have:=(d7.mp aK).1;exact(if_pos ⟨nL _,nM.mpr this,nK.mpr ai⟩)
noncomputable def gF(p:Int):Int:=if-10000>p then-10000 else p
noncomputable def one{α:Type}(b:Bool)(x:α):List α:=bif b then[x]else[]
noncomputable def brk(hp:Int)(bh:Bool)(i:Nat):aI→List (Nat×Int×Int)
 | .skip .. =>one bh (i,0,0)
 | .b9 _ v=>one (U (v<10000)) (i,gF v,0)
 | .cf .. =>one (U (hp<10000)) (i,gF hp,1)
 |_=>[]
noncomputable def eK(hp:Int):Nat→Bool→List aI→List (Nat×Int×Int)
 |_,_,[]=>[]
 |i,bh,it::r=>brk hp bh i it++eK hp (i+1) (!fp it) r
theorem Bi{hp:Int}{i:Nat}{bh:Bool}{it:aI}{r:List aI}:eK hp i bh (it::r)=brk hp bh i it++eK hp (i+1) (!fp it) r:=rfl
def b6(hp:Int)(af:List aI):List (Nat×Int×Int):=eK hp 0 false af++[(af.length,-10000,1)]
noncomputable def oF(p:Nat×Int×Int):V:=.tup [.int p.1,.int p.2.1,.int p.2.2]
noncomputable def hG:List aI→Prop
 |[]=>True
 | .gX .. ::r=>(∃t w q,r= .box t w::q)∧hG r
 |_::r=>hG r
theorem wJ{α:Type}{b:Bool}{x:α}:(one b x).length≤1:=by cases b<;>exact iO rfl
theorem IH{hp:Int}{bh:Bool}{i:Nat}{it:aI}:(brk hp bh i it).length≤1:=by cases it<;>first|exact fx _|exact wJ
theorem j6{st:St}{xs:List V}(hf:fit xs.length=true):hP .len st [.v (.lst xs)]=I (.v (.int xs.length),st):=bz rfl (eo (bz rfl (bz rfl (if_pos hf))) rfl)
theorem ne_nil{st:St}{xs:List V}:st.cmp .ne (.v (.lst xs)) (.v (.lst []))=I (!xs.isEmpty):=by cases xs<;>rfl
inductive j7(af:List aI)(hp:Int)(s:Nat)(h:List Cell)(t:Nat)(c6:List V)(st:St):Prop where
 |mk (pre r:List aI) (acc:List (Nat×Int×Int)) (bh:Bool) (x5 x6 x7 cW cX:Option X) (ay:af=pre++r) (au:c6=pairs pre.length (r.map enc)) (bo:acc++eK hp pre.length bh r=eK hp 0 false af) (cg:hG r) (dC:acc.length≤pre.length)
  (gG:st=⟨[I (.v (.lst (af.map enc))),I (.cell s),I (.cell h.length),I (.v (.bool true)),I (.v (.bool bh)),x5,x6,x7,cW,cX,J,J,J],h++[.lst (acc.map oF)],t,h.length⟩)
theorem j7.next{af:List aI}{hp:Int}{s:Nat}{pre r:List aI}{it:aI}{acc:List (Nat×Int×Int)}{bh:Bool}{x5 x6 x7 cW cX:Option X}{l:List V}(ay:af=pre++it::r)(bo:acc++eK hp pre.length bh (it::r)=eK hp 0 false af)(cg:hG r)(dC:acc.length≤pre.length)(a:List (Nat×Int×Int))(ae:brk hp bh pre.length it=a)(ar:acc.map oF++a.map oF=l):
  j7 af hp s h t (pairs (pre.length+1) (r.map enc)) ⟨[I (.v (.lst (af.map enc))),I (.cell s),I (.cell h.length),I (.v (.bool true)),I (.v (.bool (!fp it))),x5,x6,x7,cW,cX,J,J,J],h++[.lst l],t,h.length⟩:=by
 have hlen:(pre++[it]).length=pre.length+1:=by erw[b4];rfl
 refine⟨pre++[it],r,acc++a,!fp it,x5,x6,x7,cW,cX,by erw[ay,eR];rfl,by erw[hlen],?_,cg,?_,by erw[←ar,fy]⟩
 ·erw[hlen,←bo,eR];subst ae
  rfl
 ·have:=IH (hp:=hp) (bh:=bh) (i:=pre.length) (it:=it);rw[ae]at this;erw[hlen,b4];exact nJ dC this
theorem II{α:Type}{af pre r:List α}{it:α}(e:af=pre++it::r):pre.length<af.length:=by erw[e,b4];exact qw (ji _)
theorem U3{α:Type}{af pre r:List α}(e:af=pre++r):pre.length≤af.length:=by erw[e,b4];exact f6 ..
theorem IJ{α β:Type}{f:α→β}{acc:List α}{n m:Nat}(h:acc.length≤n)(aa:n≤m)(ab:m≤1000):fit (acc.map f).length=true:=dO (by rw[bF];exact bR h (bR aa (bR ab (by decide))))
theorem U4{af:List aI}{S:cj}{s:Nat}(aL:h[s]? =I S.cell)(aA:af.length≤1000)(ai:hG af):bu bl (n+2) 22 [.v (.lst (af.map enc)),.cell s] h t h.length=I (.v (.lst ((b6 S.hp af).map oF)),h,t):=by
 have ar:(af.map enc).length=af.length:=bF ..;have kM:fit (af.map enc).length=true:=dO (x8 ‹_› ‹_› rfl)
 ac_rfl
 iterate fail
 refine gW (A6 (by repeat1' fail) kM) ?_;refine i7 (j7 af S.hp s h t) ?_ ?_ _ _ ⟨[],af,[],false,J,J,J,J,J,rfl,rfl,rfl,ai,bE _,rfl⟩
 ·rintro v vs st ⟨pre,r,acc,bh,x5,x6,x7,cW,cX,ay,au,bo,cg,dC,rfl⟩
  induction r using bY with
  |nil=>injections au
  |cons it r=>
  obtain⟨rfl,rfl⟩:=List.cons.inj au;refine fun Q cQ el=>⟨_,tF,?_⟩;have hf:fit (acc.map oF).length=true:=IJ dC (c' (II ay)) aA;cases it with
  |box aF w=>
   iterate (with_reducible exact i')
   exact cQ _ _ rfl (j7.next ay bo cg dC [] rfl (ei _))
  |mark aF=>
   iterate (with_reducible exact i')
   exact cQ _ _ rfl (j7.next ay bo cg dC [] rfl (ei _))
  |skip aF g=>
   iterate (with_reducible exact i')
   ·intro aa;have aa:bh=true:=aa
    iterate (first|with_reducible exact i'|exact hf)
    exact cQ _ _ rfl (j7.next ay bo cg dC [(pre.length,0,0)] (by erw[aa];rfl) rfl)
   ·intro aa;have aa:bh=false:=aa
    iterate (with_reducible exact i')
    exact cQ _ _ rfl (j7.next ay bo cg dC [] (by erw[aa];rfl) (ei _))
  |b9 aF v=>
   iterate (with_reducible exact i')
   ·intro aa
    iterate (first|with_reducible exact i'|exact hf)
    exact cQ _ _ rfl (j7.next ay bo cg dC [(pre.length,gF v,0)] (by show one (U (v<10000)) _=_;erw[aa];rfl) rfl)
   ·intro aa
    iterate (with_reducible exact i')
    exact cQ _ _ rfl (j7.next ay bo cg dC [] (by show one (U (v<10000)) _=_;erw[aa];rfl) (ei _))
  |cf aF a b m=>
   iterate ((with_reducible apply jB);(repeat1' (exact ne_nil));intro _;(repeat1' (exact e7 aL));intro _;(repeat1' (exact e7 aL)))
   ·intro aa
    iterate (first|with_reducible exact i'|exact hf)
    exact cQ _ _ rfl (j7.next ay bo cg dC [(pre.length,gF S.hp,1)] (by show one (U (S.hp<10000)) _=_;erw[aa];rfl) rfl)
   ·intro aa
    iterate (with_reducible exact i')
    exact cQ _ _ rfl (j7.next ay bo cg dC [] (by show one (U (S.hp<10000)) _=_;erw[aa];rfl) (ei _))
  |gX aF w abf=>
   obtain⟨⟨o8,U5,q,rfl⟩,cg⟩:=cg
   iterate fail
   ·intro _;have aw:gL (.lst (af.map enc)) (.int ((pre.length:Int)+1))=I (enc (.box o8 U5)):=by refine item_at (k:=pre.length+1) ?_ rfl (bR (II ay) (bR aA (by decide)));erw[ay,fy,iR (by erw[bF];exact lN _),bF,iu];rfl
    iterate (first|exact aw|exact j6 kM)
    ·intro aa;exact absurd (cC.mp (cC.mp aa).2).2 (by decide)
    intro _
    iterate (with_reducible exact i')
    exact cQ _ _ rfl (j7.next ay bo cg dC [] rfl (ei _))
   ·intro _
    iterate (with_reducible exact i')
    exact cQ _ _ rfl (j7.next ay bo cg dC [] rfl (ei _))
 ·rintro st ⟨pre,r,acc,bh,x5,x6,x7,cW,cX,ay,au,bo,cg,dC,rfl⟩
  induction r using bY with
  |cons=>injections au
  |nil=>
  show Wp _ _;have hf:fit (acc.map oF).length=true:=IJ dC (U3 ay) aA
  iterate (exact hf)
  iterate (first|exact j6 kM|exact hf)
  refine wF 0 rfl ?_;erw[ar];unfold b6;erw[←bo,fy];erw[ei];rfl
end
section
variable{n t:Nat}{h:List Cell}
noncomputable def ik:List aI→Nat
 |[]=>0
 |it::r=>bif fp it then ik r+1 else 0
theorem Bj{af:List aI}{it:aI}{p:Nat}(hp:af[p]? =I it)(aA:af.length≤1000):gL (.lst (af.map enc)) (.int (p:Int))=I (enc it):=by refine item_at (k:=p) (by erw[lP,hp];rfl) rfl ?_;have:=(d7.mp hp).1;exact r4 ‹_› ‹_› rfl
noncomputable def gY(af:List aI)(p:Nat):Nat:=match af[p]? with
 |some (.cf _ _ b _)=>bif b.isEmpty then p+1+ik (af.drop (p+1))else p+1
 |_=>p+ik (af.drop p)
theorem Bk{it:aI}{r:List aI}:ik (it::r)=bif fp it then ik r+1 else 0:=rfl
theorem IK:∀l:List aI,ik l≤l.length:=by
 intro aT
 induction aT with
 |nil=>exact bE _
 |cons it r aD=>erw[Bk];have:=aD;cases fp it<;>simp<;>exact‹_›
theorem Bl{C:Calls}{af:List aI}{bs:Nat}{x y z:Option X}(lp:∀it,C 21 [.v (enc it)] h t h.length=I (.v (.bool (fp it)),h,t))(aA:af.length≤1000):∀(q:List aI) (p k:Nat),af.drop p=q→p≤af.length→ik q<k→lZ (fun st=>hO (aj C (.and (.cmp (.loc 1) .lt (.bi .len (.cons (.loc 0) .nil))) (.call 21 (.cons (.item (.loc 0) (.loc 1)) .nil))) st)) (bI C (.cons (.aug 1 (.const (.int 1))) .nil)) k ⟨[I (.v (.lst (af.map enc))),I (.v (.int p)),x,y,z],h,t,bs⟩=I (.next,⟨[I (.v (.lst (af.map enc))),I (.v (.int ((p+ik q:Nat):Int))),x,y,z],h,t,bs⟩):=by
 intro q
 induction q with
 |nil=>
  intro p k aE hp ai
  induction k using fe with
  |zero=>exact absurd ai (o5 _)
  |succ k=>
   have ar:af.length≤p:=aan.mp aE;have kM:fit (af.map enc).length=true:=fZ (by assumption) (by first|decide|lia)
   refine Ba (tE (p:=false) ?_)
   repeat1' (first|exact j6 kM|exact decide_eq_false (by erw[bF];exact x' ‹_›))
 |cons it q aD=>
  intro p k aE hp ai
  induction k using fe with
  |zero=>exact absurd ai (o5 _)
  |succ k=>
   have hit:af[p]? =I it:=by erw[←List.head?_drop,aE];rfl
   have dQ:=(d7.mp hit).1;have kM:fit (af.map enc).length=true:=fZ (by assumption) (by first|decide|lia)
   have e:aj C (.and (.cmp (.loc 1) .lt (.bi .len (.cons (.loc 0) .nil))) (.call 21 (.cons (.item (.loc 0) (.loc 1)) .nil))) ⟨[I (.v (.lst (af.map enc))),I (.v (.int p)),x,y,z],h,t,bs⟩=I (.v (.bool (U ((p:Int)<(af.map enc).length)&&fp it)),⟨[I (.v (.lst (af.map enc))),I (.v (.int p)),x,y,z],h,t,bs⟩):=by
    repeat1' (first|exact j6 kM|exact lp it|exact Bj hit aA)
   rw[decide_eq_true (by erw[bF];exact mH ‹_›),lU]at e;cases hd:fp it with
   |false=>rw[hd]at e;erw[Ba (tE e)];erw[Bk];erw[hd];rfl
   |true=>rw[hd]at e;rw[Bk]at ai⊢;rw[hd]at ai⊢;refine Iq (tE e) (rr:=.next) rfl rfl ?_;have:=aD (p+1) k (by erw[←List.tail_drop,aE];rfl) dQ (rO ai);rw[show p+1+ik q=p+(ik q+1)by exact iP _ _ _]at this;exact this
noncomputable def IL:aI→Int
 | .box .. =>2
 | .gX .. =>5
 | .skip .. =>6
 | .b9 .. =>7
 | .cf .. =>8
 | .mark _=>9
theorem tI{C:Calls}{a:ao}{st st1:St}{it:aI}(aa:aj C a st=I (.v (enc it),st1)):aj C (.attr a 6) st=I (.v (.int (IL it)),st1):=by cases it<;>exact hi aa rfl
set_option tactic.hygienic true in
theorem U6{af:List aI}{p:Nat}(aA:af.length≤90)(hp:p≤af.length):bu bl (n+2) 23 [.v (.lst (af.map enc)),.v (.int p)] h t h.length=I (.v (.int (gY af p:Nat)),h,t):=by
 have kM:fit (af.map enc).length=true:=fZ (by assumption) (by first|decide|lia)
 have gg:af.length≤1000:=by exact cz ‹_› rfl
 have av:∀p,ik (af.drop p)<100:=fun p=>gI (IK _) (gI (List.drop_sublist p af).length_le (nT aA rfl))
 ac_rfl
 cases aw:af[p]? with
 |none=>
  have ar:=xV.mp aw
  iterate (first|exact j6 kM|exact decide_eq_false (by erw[bF];exact x' ‹_›))
  refine wD (Bl (fun it=>i') gg _ p 100 rfl hp (av p)) ?_
  iterate fail
  exact dN (by delta gY;erw[aw])
 |some it=>
  have dQ:=(d7.mp aw).1;have hd:U ((p:Int)<((af.map enc).length:Int))=true:=decide_eq_true (by erw[bF];exact mH ‹_›);have md:=Bj aw gg
  iterate (first|exact j6 kM|exact md|((with_reducible apply tI);(repeat1' (exact md))))
  ·intro aa;rw[hd,lU]at aa;cases it<;>first|(cases aa;done)|skip
   rename_i aF a b m
   iterate (first|exact md|exact ne_nil)
   ·intro ab
    iterate fail
    refine dN (congrArg V.int ?_);delta gY;erw[aw]
    induction b using bY with
    |nil=>injections ab
    |cons=>rfl
   ·intro ab
    iterate fail
    refine wD (Bl (fun it=>i') gg _ (p+1) 100 rfl dQ (av _)) ?_
    iterate fail
    refine dN (congrArg V.int ?_);delta gY;erw[aw]
    induction b using bY with
    |nil=>rfl
    |cons=>injections ab
  ·intro aa;rw[hd,lU]at aa;refine wD (Bl (fun it=>i') gg _ p 100 rfl hp (av p)) ?_
   iterate fail
   refine dN (congrArg V.int ?_);delta gY;erw[aw];cases it<;>first|rfl|cases aa
end
section
variable{n t:Nat}{h:List Cell}
noncomputable abbrev c3:=Nat→Int
noncomputable def gH(v:c3):List V:=[.int (v 0),.int (v 1),.int (v 2),.int (v 3),.int (v 4),.int (v 5)]
def c9(v:c3):V:=.tup (gH v)
noncomputable def upd(v:c3)(k:Nat)(s:Int):c3:=fun j=>if j=k then v j+s else v j
noncomputable def i2(v:c3)(g:bb):c3:=upd (upd (upd v 0 g.w) (1+g.o.toNat) g.s) 5 g.k
theorem get_set{h:List Cell}{m:Nat}{c d:Cell}(hm:h[m]? =I c):(h.set m d)[m]? =I d:=by erw[xW (d7.mp hm).1]
theorem IM{o:Nat}(h:o<6):o=0∨o=1∨o=2∨o=3∨o=4∨o=5:=by revert o;decide
theorem wK{v:c3}{o:Nat}(aO:o<6):nZ (.lst (gH v)) (.int (o:Int))=I (.v (.int (v o))):=by
 rcases IM aO with rfl|rfl|rfl|rfl|rfl|rfl<;>rfl
theorem rn{v:c3}{s:Int}{b:Bool}{o:Nat}(aO:o<6):pj b (.lst (gH v)) (.int (o:Int)) (.v (.int (v o+s)))=I (.lst (gH (upd v o s))):=by
 rcases IM aO with rfl|rfl|rfl|rfl|rfl|rfl<;>rfl
theorem pJ{lo:List (Option X)}{bs m:Nat}{c:Cell}{v:V}{x:X}(hm:h[m]? =I c)(aC:nZ c v=I x):St.item ⟨lo,h,t,bs⟩ (.cell m) (.v v)=I x:=bz rfl (bz hm aC)
noncomputable def oG(g:bb):Prop:=0≤g.o∧g.o≤3
theorem U7{v:c3}{g:bb}{m:Nat}(aK:oG g)(hm:h[m]? =I (.lst (gH v))):bu bl (n+1) 24 [.cell m,.v (iH g)] h t h.length=I (.v .bB,h.set m (.lst (gH (i2 v g))),t):=by
 have aO:(1+g.o)=((1+g.o.toNat:Nat):Int):=by have:=aK.1;lia
 have IP:1+g.o.toNat<6:=by have:=aK.2;lia
 ac_rfl
 iterate (first|exact pJ hm (wK (o:=0) (by decide))|exact hm|exact rn (o:=0) (by decide))
 have Bm:=get_set (d:=.lst (gH (upd v 0 g.w))) hm
 iterate (first|(erw[aO];exact pJ Bm (wK IP))|exact Bm|(erw[aO];exact rn IP))
 have vx:=get_set (d:=.lst (gH (upd (upd v 0 g.w) (1+g.o.toNat) g.s))) Bm
 iterate (first|exact pJ vx (wK (o:=5) (by decide))|exact vx|exact rn (o:=5) (by decide))
 erw[L0,L0];exact UH (by erw[kl])
theorem Bn{v:c3}{g:bb}{ee:List Cell}(aK:oG g):bu bl (n+1) 24 [.cell h.length,.v (iH g)] (h++ .lst (gH v)::ee) t (h++ .lst (gH v)::ee).length=I (.v .bB,h++ .lst (gH (i2 v g))::ee,t):=by have e:(h++ .lst (gH v)::ee).set h.length (.lst (gH (i2 v g)))=h++ .lst (gH (i2 v g))::ee:=ni 0 _;erw[U7 (v:=v) aK (eY 0),e]
noncomputable def da:c3:=fun ag=>0
theorem Bo{lo:List (Option X)}{bs:Nat}{v:c3}{ee:List Cell}{o:Nat}(aO:o<6):St.item ⟨lo,h++ .lst (gH v)::ee,t,bs⟩ (.cell h.length) (.v (.int (o:Int)))=I (.v (.int (v o))):=pJ (eY 0) (wK aO)
theorem wL{lo:List (Option X)}{bs:Nat}{v:c3}{ee:List Cell}:hP .tuple ⟨lo,h++ .lst (gH v)::ee,t,bs⟩ [.cell h.length]=I (.v (c9 v),⟨lo,h++ .lst (gH v)::ee,t,bs⟩):=UA (gV (eY 0)) rfl
def eL(S:cj)(x:Int):c3:=upd (i2 (i2 da S.ls) S.rs) 1 x
theorem U8{S:cj}{s:Nat}{x:Int}(aL:h[s]? =I S.cell)(ar:oG S.ls)(av:oG S.rs)(aC:i8 x):bu bl (n+3) 29 [.cell s,.v (.int x)] h t h.length=I (.v (c9 (eL S x)),h,t):=by
 ac_rfl
 refine dT (wx (vs:=gH da) a9 rfl rfl rfl) ?_
 iterate (first|with_reducible exact Bn ar|with_reducible exact Bn av|with_reducible exact kL aC|exact e7 aL|exact Bo (o:=1) (by decide)|exact rn (o:=1) (by decide)|exact wL)
 exact nj rfl
theorem U9{v:c3}{x:Int}:bu bl (n+1) 27 [.v (c9 v),.v (.int x)] h t h.length=I (.v (c9 (upd v 0 x)),h,t):=by
 ac_rfl
 iterate ((with_reducible apply Ul);(repeat1' fail);exact rfl)
 exact dN rfl
theorem U'{b e g:c3}:bu bl (n+1) 30 [.v (c9 b),.v (c9 e),.v (c9 g)] h t h.length=I (.v (c9 fun k=>e k-b k+g k),h,t):=by
 ac_rfl
 iterate ((with_reducible apply ri);(with_reducible apply wz);(repeat1' fail);exact rfl;show fh _ _ _ [V.int 0,V.int 1,V.int 2,V.int 3,V.int 4,V.int 5] _=_;repeat ((with_reducible apply rj);exact fD;repeat1' fail);exact rfl)
 exact dN rfl
end
section
variable{n t:Nat}{h:List Cell}
noncomputable def j8(v:c3):aI→c3
 | .skip _ g=>i2 v g
 | .cf _ _ _ m=>upd v 0 (dU m)
 |it=>upd v 0 (Bf it)
noncomputable def mu(v:c3):List aI→List c3
 |[]=>[]
 |it::r=>j8 v it::mu (j8 v it) r
noncomputable def pZ:aI→Prop
 | .skip _ g=>oG g
 | .cf _ a b m=>a.length≤1000∧b.length≤1000∧m.length≤1000
 |_=>True
theorem nk{l:i9}(ar:l.length≤1000):fit (l.map fv).length=true:=fZ (by assumption) (by first|decide|lia)
inductive ro(af:List aI)(h:List Cell)(t:Nat)(vs:List V)(st:St):Prop where
 |mk (pre r:List aI) (acc:List c3) (v:c3) (x3:Option X) (ay:af=pre++r) (au:vs=r.map enc) (bo:acc++mu v r=da::mu da af) (cg:acc.length=pre.length+1)
  (gG:st=⟨[I (.v (.lst (af.map enc))),I (.cell h.length),I (.cell (h.length+1)),x3,J,J,J],h++[.lst (gH v),.lst (acc.map c9)],t,h.length⟩)
theorem ro.next{af:List aI}{pre r:List aI}{it:aI}{acc:List c3}{v w:c3}{x3:Option X}(ay:af=pre++it::r)(bo:acc++mu v (it::r)=da::mu da af)(cg:acc.length=pre.length+1)(hw:w=j8 v it):
  ro af h t (r.map enc) ⟨[I (.v (.lst (af.map enc))),I (.cell h.length),I (.cell (h.length+1)),x3,J,J,J],h++[.lst (gH w),.lst (acc.map c9++[c9 w])],t,h.length⟩:=by
 subst hw;exact .mk (pre++[it]) r (acc++[j8 v it]) (j8 v it) x3 (by erw[ay,eR];rfl) rfl (by erw[←bo,eR];rfl) (by erw[b4,b4,cg];rfl) (by erw[fy];rfl)
set_option tactic.hygienic true in
theorem Va{af:List aI}(aA:af.length≤1000)(aw:∀it,it∈af→pZ it):bu bl (n+3) 26 [.v (.lst (af.map enc))] h t h.length=I (.v (.lst ((da::mu da af).map c9)),h,t):=by
 ac_rfl
 refine dT (wx (vs:=gH da) a9 rfl rfl rfl) ?_
 iterate fail
 refine gW (hk (by repeat1' fail) rfl (fZ (by assumption) (by first|decide|lia))) ?_
 refine i7 (ro af h t) ?_ ?_ _ _ (.mk [] af [da] da J rfl rfl rfl rfl rfl)
 ·rintro v vs st ⟨pre,r,acc,v,x3,ay,au,bo,cg,rfl⟩
  induction r using bY with
  |nil=>injections au
  |cons it r=>
  obtain⟨rfl,rfl⟩:=List.cons.inj au;have hlen:acc.length≤1001:=by have:=congrArg xN ay;simp at this;lia
  have hf:fit (acc.map c9).length=true:=fZ (by assumption) (by first|decide|lia)
  have hit:=aw it (by erw[ay];simp);refine fun Q cQ el=>⟨_,fD,?_⟩
  iterate ((with_reducible apply tI);(repeat1' fail))
  ·intro aa;cases it<;>first|(cases aa;done)|skip
   rename_i aF g;have aK:oG g:=hit
   iterate (first|with_reducible exact Bn aK|exact wL|exact hf)
   exact cQ _ _ rfl (ro.next ay bo cg rfl)
  ·intro aa
   iterate ((with_reducible apply tI);(repeat1' fail))
   ·intro ab;cases it<;>first|(cases ab;done)|skip
    rename_i aF a b m
    iterate (first|exact(Bg (n:=n) (t:=t) (h:=h++[.lst (gH v),.lst (acc.map c9)]) (nk hit.2.2))|exact Bo (o:=0) (by decide)|exact rn (o:=0) (by decide)|exact wL|exact hf)
    exact cQ _ _ rfl (ro.next ay bo cg rfl)
   ·intro ab;have hd:lC it=false:=by cases it<;>first|rfl|cases ab
    iterate (first|with_reducible exact ID hd|exact Bo (o:=0) (by decide)|exact rn (o:=0) (by decide)|exact wL|exact hf)
    exact cQ _ _ rfl (ro.next ay bo cg (by cases it<;>first|rfl|(cases aa;done)|cases ab))
 ·rintro st ⟨pre,r,acc,v,x3,ay,au,bo,cg,rfl⟩
  induction r using bY with
  |cons=>injections au
  |nil=>
  show Wp _ _
  iterate fail
  exact wF 1 rfl (by erw[←bo];show _=(acc++[]).map c9;erw[ei])
def Sum(af:List aI)(k:Nat):c3:=(af.take k).foldl j8 da
theorem IQ:∀(af:List aI) (v:c3) (k:Nat),k≤af.length→(v::mu v af)[k]? =I ((af.take k).foldl j8 v)
 |[],v,0,_=>rfl
 |_::_,v,0,_=>rfl
 |it::r,v,k+1,h=>IQ r (j8 v it) k (o6 h)
noncomputable def mv(af:List aI)(p:Nat):c3:=match af[p]? with
 |some (.cf _ _ b _)=>upd (Sum af (gY af p)) 0 (-dU b)
 |_=>Sum af (gY af p)
noncomputable def kN(af:List aI)(p:Nat):c3:=match af[p]? with
 |some (.cf _ a _ _)=>upd (Sum af p) 0 (dU a)
 |_=>Sum af p
def nq(af:List aI)(q:Nat×Int×Int):V:=.tup [.int q.1,.int q.2.1,.int q.2.2,.int (gY af q.1:Nat),c9 (mv af q.1),c9 (kN af q.1)]
inductive tJ(af:List aI)(q:Nat×Int×Int):Prop where
 |item (it:aI) (h:af[q.1]? =I it) (s:U (q.2.2=1)=lC it)
 |last (h:q.1=af.length)
theorem Vb{hp:Int}{af:List aI}:∀(pre r:List aI) (bh:Bool),af=pre++r→∀q,q∈eK hp pre.length bh r→tJ af q:=by
 intro pre aT
 induction aT generalizing pre with
 |nil=>intro _ _ q aE;exact nomatch aE
 |cons it r aD=>
  intro bh e q aE
  rcases dR.mp aE with h|h
  ·have h0:af[pre.length]? =I it:=by erw[e,iR (bE _),kY];rfl
   have Vc:∀{b:Bool} {x y:Nat×Int×Int},y∈one b x→y=x:=by
    intro b x y aV;induction b using hL with
    |false=>exact nomatch aV
    |true=>exact dY.mp aV
   cases it<;>first|exact absurd (show q∈[]from h) kZ|(cases Vc h;exact .item _ h0 rfl)
  ·have:=aD (pre++[it]) (!fp it) (by erw[e,eR];rfl) q (by erw[b4];exact h);exact this
theorem IS{hp:Int}{af:List aI}{q:Nat×Int×Int}(aE:q∈b6 hp af):tJ af q:=by
 rcases dR.mp aE with h|h
 ·exact Vb [] af false rfl q h
 ·cases dY.mp h;exact .last rfl
theorem tJ.le{af:List aI}{q:Nat×Int×Int}(h:tJ af q):q.1≤af.length:=by
 cases h with
 |item it h=>exact c' (d7.mp h).1
 |last h=>exact eQ h
theorem Vd{hp:Int}:∀(r:List aI) (i:Nat) (bh:Bool),(eK hp i bh r).length≤r.length:=by
 intro aT
 induction aT with
 |nil=>intro _ _;exact bE _
 |cons it r aD=>
  intro i bh;have aa:=IH (hp:=hp) (bh:=bh) (i:=i) (it:=it);have ab:=aD (i+1) (!fp it);erw[Bi];erw[b4,gA]
  lia
theorem Ve{p n r:Nat}(hp:p≤n)(h:r≤n-p):p+r≤n:=bR (lR h p) (eQ (mG hp))
set_option tactic.hygienic true in
theorem IT{af:List aI}{p:Nat}(hp:p≤af.length):gY af p≤af.length:=by
 have run {q} (aE:q≤af.length):q+ik (af.drop q)≤af.length:=Ve aE (CT (i:=q) (l:=af)▸IK (af.drop q));delta gY;cases aw:af[p]? with
 |none=>exact run hp
 |some it=>
  have:=(d7.mp aw).1
  induction it using aI.casesOn with
  |cf t a b m=>
   induction b using bY with
   |nil=>exact run (q:=p+1) this
   |cons=>exact this
  |_=>exact run hp
inductive tK(af:List aI)(L:List (Nat×Int×Int))(s:Nat)(h:List Cell)(t:Nat)(vs:List V)(st:St):Prop where
 |mk (pre r:List (Nat×Int×Int)) (x4 x5 x6 x7 cW cX:Option X) (ay:L=pre++r) (au:vs=r.map oF)
  (gG:st=⟨[I (.v (.lst (af.map enc))),I (.cell s),I (.v (.lst ((da::mu da af).map c9))),I (.cell h.length),x4,x5,x6,x7,cW,cX,J,J,J],h++[.lst (pre.map (nq af))],t,h.length⟩)
theorem tK.next{af:List aI}{L:List (Nat×Int×Int)}{s:Nat}{pre r:List (Nat×Int×Int)}{q:Nat×Int×Int}{x4 x5 x6 x7 cW cX:Option X}{v:V}(ay:L=pre++q::r)(aJ:v=nq af q):
  tK af L s h t (r.map oF) ⟨[I (.v (.lst (af.map enc))),I (.cell s),I (.v (.lst ((da::mu da af).map c9))),I (.cell h.length),x4,x5,x6,x7,cW,cX,J,J,J],h++[.lst (pre.map (nq af)++[v])],t,h.length⟩:=by
 subst aJ;exact .mk (pre++[q]) r x4 x5 x6 x7 cW cX (by erw[ay,eR];rfl) rfl (by erw[fy];rfl)
theorem IU{af:List aI}{k:Nat}(ai:k≤af.length)(aA:af.length≤1000):gL (.lst ((da::mu da af).map c9)) (.int (k:Int))=I (c9 (Sum af k)):=item_at (k:=k) (by erw[lP,IQ af da k ai];rfl) rfl (r3 ‹_› ‹_› rfl)
set_option tactic.hygienic true in
theorem Vf{af:List aI}{S:cj}{s:Nat}(aL:h[s]? =I S.cell)(aA:af.length≤90)(ai:hG af)(aw:∀it,it∈af→pZ it):bu bl (n+4) 28 [.v (.lst (af.map enc)),.cell s] h t h.length=I (.v (.lst ((b6 S.hp af).map (nq af))),h,t):=by
 have gg:af.length≤1000:=by exact cz ‹_› rfl
 have kM:fit (af.map enc).length=true:=fZ (by assumption) (by first|decide|lia)
 have cv:(b6 S.hp af).length≤1001:=by have:=Vd (hp:=S.hp) af 0 false;delta b6;erw[b4];show _+1≤_;exact cz (jf (bR ‹_› ‹_›)) rfl
 ac_rfl
 iterate (with_reducible exact Va gg aw)
 have ar:=U4 (n:=n+1) (t:=t) (h:=h++[.lst []]) (e7 aL) gg ai;refine gW (hk (by repeat1' (exact ar)) rfl (fZ (by assumption) (by first|decide|lia))) ?_
 refine i7 (tK af (b6 S.hp af) s h t) ?_ ?_ _ _ (.mk [] _ J J J J J J rfl rfl rfl)
 ·rintro v vs st ⟨pre,r,x4,x5,x6,x7,cW,cX,ay,au,rfl⟩
  induction r using bY with
  |nil=>cases au
  |cons q r=>
  obtain⟨rfl,rfl⟩:=List.cons.inj au;have aE:tJ af q:=IS (hp:=S.hp) (by erw[ay];exact List.mem_append_right _ (.head _));have hf:fit (pre.map (nq af)).length=true:=dO (by have:=congrArg xN ay;simp at this;erw[bF];lia);obtain⟨p,b9,sort⟩:=q;have hp:p≤af.length:=aE.le;have aa:=IU (IT hp) gg;have ab:=IU hp gg;refine fun Q cQ el=>⟨_,UE,?_⟩
  iterate (first|with_reducible exact U6 aA hp|exact aa|exact ab|exact j6 kM)
  ·intro aq;obtain⟨ba,b0⟩:=cC.mp aq;cases aE with
   |last h=>have:=of_decide_eq_true ba;rw[bF]at this;have h:p=af.length:=h;exact absurd this (by lia)
   |item it h0 hd=>
    rw[b0]at hd;cases it<;>first|(cases hd;done)|skip
    rename_i aF a b m;have hit:pZ (.cf aF a b m):=aw _ (fI h0);have md:=Bj h0 gg;have f1:=nk hit.1;have f2:=nk hit.2.1
    iterate (first|exact md|with_reducible exact Bg f1|with_reducible exact Bg f2|with_reducible exact U9|exact hf)
    refine cQ _ _ rfl (tK.next ay ?_);delta nq mv kN;have h0:af[p]? =I (aI.cf aF a b m):=h0;erw[h0]
  ·intro aq
   iterate (first|exact hf)
   refine cQ _ _ rfl (tK.next ay ?_);delta nq mv kN;cases aE with
   |last h=>have h:p=af.length:=h;have h0:af[p]? =J:=jd (eQ h.symm);erw[h0]
   |item it h0 hd=>
    have h0:af[p]? =I it:=h0;have d2:U (sort=1)=false:=by have:U ((p:Int)<((af.map enc).length:Int))=true:=decide_eq_true (by have:=(d7.mp h0).1;erw[bF];lia);rw[this,lU]at aq;exact aq
    have hd:U (sort=1)=lC it:=hd;rw[d2]at hd;erw[h0];cases it<;>first|rfl|cases hd
 ·rintro st ⟨pre,r,x4,x5,x6,x7,cW,cX,ay,au,rfl⟩
  induction r using bY with
  |cons=>cases au
  |nil=>
  show Wp _ _
  iterate fail
  exact wF 0 rfl (by erw[ay,ei])
end
section
variable{n t:Nat}{h:List Cell}
noncomputable def nr(v:c3):Bool:= !U (v 2=0)||(!U (v 3=0)|| !U (v 4=0))
noncomputable def e8(z:Int)(v:c3):Int×Int:=bif U (z-v 0>0)then bif nr v then(0,2)else bif U (eJ (z-v 0) (v 1)>99)then(eJ (z-v 0) (v 1),0)else(eJ (z-v 0) (v 1),bif U (eJ (z-v 0) (v 1)>12)then 1 else 2)
 else bif U (-(z-v 0)>v 5)then(10001,3)else(eJ (-(z-v 0)) (v 5),bif U (eJ (-(z-v 0)) (v 5)>12)then 3 else 2)
structure wM(z:Int)(v:c3):Prop where
 lo: -7230584≤z-v 0
 aw:z-v 0≤7230584
 st:v 1<1000000000
 oH:v 5<1000000000
noncomputable def IV(p:Int×Int):V:=.tup [.int p.1,.int p.2]
theorem rq{v:c3}{k:Nat}(ai:k<6):gL (c9 v) (.int (k:Int))=I (.int (v k)):=show gL (.lst ((iQ 6).map fun i=>V.int (v i))) _=_ from item_at (by erw[lP,Z9 ai];rfl) rfl (qz ai rfl)
theorem Vg{z:Int}{v:c3}(bw:wM z v):bu bl (n+2) 31 [.v (.int z),.v (c9 v)] h t h.length=I (.v (IV (e8 z v)),h,t):=by
 have oI:=rq (v:=v) (k:=0) (by decide);have g1:=rq (v:=v) (k:=1) (by decide);have g2:=rq (v:=v) (k:=2) (by decide);have g3:=rq (v:=v) (k:=3) (by decide);have Vh:=rq (v:=v) (k:=4) (by decide);have tL:=rq (v:=v) (k:=5) (by decide)
 ac_rfl
 iterate (exact oI)
 ·intro aa
  iterate (first|exact g2|exact g3|exact Vh)
  ·intro ab
   iterate fail
   exact dN (by unfold e8;erw[aa,show nr v=true from ab];rfl)
  ·intro ab;have ae:=Iv (n:=n) (t:=t) (h:=h) (e:=z-v 0) (w:=v 1) (jO (of_decide_eq_true aa)) bw.aw bw.st
   iterate (first|exact g1|exact ae)
   ·intro aq
    iterate fail
    exact dN (by unfold e8;erw[aa,show nr v=false from ab,aq];rfl)
   ·intro aq
    iterate fail
    exact dN (by unfold e8;erw[aa,show nr v=false from ab,aq];rfl)
 ·intro aa
  iterate (first|exact tL)
  ·intro ab
   iterate fail
   exact dN (by unfold e8;erw[aa,ab];rfl)
  ·intro ab;have ae:=Iv (n:=n) (t:=t) (h:=h) (e:= -(z-v 0)) (w:=v 5) (by have:=of_decide_eq_false aa;exact Dl ‹_›) (by have:=bw.lo;exact C0 ‹_›) bw.oH
   iterate (first|exact tL|exact ae)
   exact dN (by unfold e8;erw[aa,ab];rfl)
noncomputable def lc(c:Int):Int:=bif U ((c.natAbs:Int)≥10000)then 100000000 else c*c
def nt(cS bad b9:Int):Int:=lc (cS+bad)+(bif U (b9>0)then b9*b9 else bif U (b9> -10000)then-(b9*b9)else 0)
theorem Vi{a b:Int}(aB:Num a)(ae:Num b):(small (a+b)||small (a+b))=true:=by erw[j5 (a:=a+b) (by have:=aB.1;have:=ae.1;exact Dr ‹_› ‹_› rfl) (by have:=aB.2;have:=ae.2;exact Dq ‹_› ‹_› rfl)];rfl
theorem IW{S:cj}{s:Nat}{bad b9:Int}(aL:h[s]? =I S.cell)(ar:Num S.cS)(ae:Num bad)(hp:Num b9):bu bl (n+1) 32 [.cell s,.v (.int bad),.v (.int b9)] h t h.length=I (.v (.int (nt S.cS bad b9)),h,t):=by
 have nu:(small b9||small b9)=true:=by erw[j5 (a:=b9) (by have:=hp.1;exact d0 ‹_› rfl) (by have:=hp.2;exact k0 ‹_› rfl)];rfl
 ac_rfl
 iterate (first|exact aL|exact(Vi ar ae))
 ·intro aa
  iterate (exact nu)
  exact dN (by unfold nt;erw[aa];rfl)
 ·intro aa
  iterate fail
  ·intro ab
   iterate (exact nu)
   exact dN (by unfold nt;erw[aa,ab];rfl)
  ·intro ab
   iterate fail
   exact dN (by unfold nt;erw[aa,ab];exact congrArg V.int (eP _).symm)
noncomputable def p0(S:cj)(tw en:Bool)(ap:Int):Int:=(bif tw then bif en then 0 else S.dV else 0)+(bif U (ap>1)then S.cu else 0)
theorem IX{S:cj}{s:Nat}{tw en:Bool}{ap:Int}(aL:h[s]? =I S.cell):bu bl (n+1) 33 [.cell s,.v (.bool tw),.v (.bool en),.v (.int ap)] h t h.length=I (.v (.int (p0 S tw en ap)),h,t):=by
 ac_rfl
 iterate (exact aL)
 ·intro aa
  iterate (exact aL)
  ·intro ab
   iterate (exact aL)
   exact dN (by unfold p0;erw[show tw=true from aa,ab,ko];rfl)
  ·intro ab
   iterate (exact aL)
   exact dN (by unfold p0;erw[show tw=true from aa,ab,ko];exact congrArg V.int (eP _).symm)
 ·intro aa
  iterate (exact aL)
  ·intro ab
   iterate (exact aL)
   exact dN (by unfold p0;erw[show tw=false from aa,ab];rfl)
  ·intro ab
   iterate (exact aL)
   exact dN (by unfold p0;erw[show tw=false from aa,ab];rfl)
end
section
variable{n t:Nat}{h:List Cell}
structure fE where
 (p b9 sort st:Int)
 (jD en:c3)
def nv(a:fE):V:=.tup [.int a.p,.int a.b9,.int a.sort,.int a.st,c9 a.jD,c9 a.en]
def wN:fE:=⟨-1,0,0,0,da,da⟩
noncomputable def gj(g:c3)(a b:fE):c3:=bif U (a.st>b.p)then g else fun k=>b.en k-a.jD k+g k
structure gZ where
 S:cj
 (s ja:Nat)
 (z most len:Int)
 g:c3
 N:Nat→fE
 M:Nat
 last:Bool
noncomputable def gZ.par(G:gZ):bM where
 bad a b:=(e8 G.z (gj G.g (G.N a) (G.N b))).1
 fit a b:=(e8 G.z (gj G.g (G.N a) (G.N b))).2
 cst a b:=nt G.S.cS (e8 G.z (gj G.g (G.N a) (G.N b))).1 (G.N b).b9+(bif U ((G.N b).sort=1)&&U ((G.N a).sort=1)then bif U ((G.N b).p=G.len)then 0 else G.S.dV else 0)
 hV b:=U ((G.N b).b9= -10000)
 M:=G.M
 A:=G.S.cu
 most:=G.most
 cB i:=bif U (G.S.loose=0)then 1 else i
structure Bp(G:gZ)(h:List Cell):Prop where
 aL:h[G.s]? =I G.S.cell
 iI:h[G.ja]? =I (.inst 10 (lD G.s G.z G.most (c9 G.g) G.last (jC G.S)))
 eW:G.N 0=wN
 fit:∀a b,wM G.z (gj G.g (G.N a) (G.N b))
 cS:Num G.S.cS
 b9:∀b,Num (G.N b).b9
 cu:0≤G.S.cu
noncomputable def cG(N:Nat→fE):bc→V
 | .root=>.obj J 9 [(41,nv wN),(42,.int 0),(43,.int 2),(44,.int 0),(45,.bB)]
 | .go s l f d b=>.obj J 9 [(41,nv (N s)),(42,.int l),(43,.int f),(44,.int d),(45,cG N b)]
def wO(N:Nat→fE)(e:Ent):V:=.tup [.int e.d,cG N e.w,.int e.ln]
def fP(N:Nat→fE)(l:List (Int×Ent)):List (Int×V):=l.map fun p=>(p.1,wO N p.2)
noncomputable def gk(l:List (Int×Int)):List (Int×V):=l.map fun p=>(p.1,.int p.2)
theorem wQ{α:Type}{f:α→V}{k:Int}:∀{l:List (Int×α)},g8 k (l.map fun p=>(p.1,f p.2))=(lk k l).map f:=by
 intro aT
 induction aT with
 |nil=>exact rfl
 |cons dA r aD=>obtain⟨m,x⟩:=dA;show(if m=k then I (f x)else g8 k (r.map fun p=>(p.1,f p.2)))=LK f (if m=k then I x else lk k r);erw[aD];split<;>rfl
theorem IY{α:Type}{f:α→V}{k:Int}{x:α}:∀{l:List (Int×α)},mL k (f x) (l.map fun p=>(p.1,f p.2))=(fl k x l).map fun p=>(p.1,f p.2):=by
 intro aT
 induction aT with
 |nil=>exact rfl
 |cons dA r aD=>obtain⟨m,y⟩:=dA;show(if m=k then(m,f x)::r.map _ else(m,f y)::mL k (f x) (r.map _))=(if m=k then(m,x)::r else(m,y)::fl k x r).map _;erw[aD];split<;>rfl
theorem Vj{α:Type}{k:Int}{x:α}:∀{l:List (Int×α)},(fl k x l).length≤l.length+1:=by
 intro aT
 induction aT with
 |nil=>exact bE _
 |cons dA r aD=>
  obtain⟨m,y⟩:=dA;erw[AS];refine Mine.eT (fun h=>?_) (fun h=>?_)
  ·exact lN _
  ·exact jf aD
theorem IZ{α:Type}{k:Int}{x:α}:∀{l:List (Int×α)},(fl k x l).map (·.1)=if k∈l.map (·.1)then l.map (·.1)else l.map (·.1)++[k]:=by
 intro aT
 induction aT with
 |nil=>exact rfl
 |cons dA r aD=>
  obtain⟨m,y⟩:=dA;erw[AS];refine bZ (fun e:m=k=>?_) (fun e=>?_)
  ·erw[if_pos e,if_pos (by erw[e];exact .head _)];rfl
  ·erw[if_neg e,g0,g0,aD];refine bZ (fun i:k∈r.map (·.1)=>?_) (fun i=>?_)
   ·erw[if_pos i,if_pos (.tail _ i)]
   ·erw[if_neg i,if_neg];rfl;intro c;refine eF (ec.mp c) (fun c=>?_) (fun c=>?_)
    ·exact e c.symm
    ·exact i c
theorem Vk{lo:Int}:∀(n:Nat) (l:List Int),l.Nodup→(∀k,k∈l→lo≤k∧k<lo+n)→l.length≤n:=by
 intro n
 induction n with
 |zero=>
  intro l _ h
  induction l using bY with
  |nil=>exact bE _
  |cons k r=>exact absurd (h k (.head _)).1 (o1.mpr (eP lo▸(h k (.head _)).2))
 |succ n aD=>
  intro l aA h;have:=aD (l.erase (lo+n)) (aA.erase _) fun k ai=>by
   refine bC (fun aa ab=>?_) (aA.mem_erase_iff.mp ai);have aq:k<lo+n+1:=by rw[qx];exact(h k ab).2
   exact⟨(h k ab).1,Int.lt_iff_le_and_ne.mpr ⟨Int.lt_add_one_iff.mp aq,aa⟩⟩
  refine bZ (fun c:lo+(n:Int)∈l=>?_) (fun c=>?_)
  ·rw[List.length_erase_of_mem c]at this;exact Nat.le_add_of_sub_le this
  ·rw[List.erase_of_not_mem c]at this;exact rM this
structure j9(s:dg):Prop where
 nd:(s.best.map (·.1)).Nodup
 il:∀k,k∈s.best.map (·.1)→4≤k∧k<64
 low:∀k,k∈s.best.map (·.1)→∃v,lk (k/4) s.least=I v
theorem j9.len{s:dg}(h:j9 s):s.best.length≤60:=by
 have:=Vk (lo:=4) 60 _ h.nd fun k ai=>h.il k ai
 rwa [bF]at this
theorem tM{e w:Int}(he:0≤e):0≤eJ e w∧eJ e w≤10000:=by
 have Bq:(0:Int)≤0∧(0:Int)≤10000:=by decide
 have a8:(0:Int)≤10000∧(10000:Int)≤10000:=by decide
 unfold eJ;refine bZ (fun aa:e=0=>?_) (fun aa=>?_)
 ·erw[decide_eq_true aa];exact Bq
 refine bZ (fun ab:w≤0=>?_) (fun ab=>?_)
 ·erw[decide_eq_false aa,decide_eq_true ab];exact a8
 refine bZ (fun aq:(e*297).fdiv w>1290=>?_) (fun aq=>?_)
 ·erw[decide_eq_false aa,decide_eq_false ab,decide_eq_true aq];exact a8
 erw[decide_eq_false aa,decide_eq_false ab,decide_eq_false aq];have kK:0≤(e*297).fdiv w:=by have hw:=jO (o1.mp ab);erw[r0 _ hw];exact CZ (L1 he (by decide)) hw
 generalize (e*297).fdiv w=q at aq kK;have eu:=ez.mp aq;erw[r0 _ (by decide)];have a1:=L1 kK kK;have a2:=Int.mul_le_mul eu eu kK (by decide);have pG:=L1 a1 kK;have th:=Int.mul_le_mul a2 eu kK (by decide);exact⟨CZ (r1 pG (by decide)) (by decide),ZY (Int.ediv_lt_of_lt_mul (by decide) (mB (kn th _) (by decide)))⟩
structure mw(p:Int×Int):Prop where
 lW:0≤p.1
 g4:p.1≤10001
 f0:0≤p.2
 f1:p.2≤3
theorem p1{z:Int}{v:c3}:mw (e8 z v):=by
 have mk:∀{b f:Int},(0≤b∧b≤10000)→0≤f→f≤3→mw (b,f):=fun h aa ab=>⟨h.1,by show _≤(10001:Int);have:=h.2;exact d3 ‹_› rfl,aa,ab⟩;unfold e8;refine bZ (fun aa:z-v 0>0=>?_) (fun aa=>?_)
 ·erw[decide_eq_true aa];have:=tM (e:=z-v 0) (w:=v 1) (jO aa);cases nr v
  ·cases U (eJ (z-v 0) (v 1)>99)
   ·cases U (eJ (z-v 0) (v 1)>12)
    ·exact mk (f:=2) this (by decide) (by decide)
    ·exact mk (f:=1) this (by decide) (by decide)
   ·exact mk (f:=0) this (by decide) (by decide)
  ·exact mk (b:=0) (f:=2) (by decide) (by decide) (by decide)
 ·erw[decide_eq_false aa];have:=tM (e:= -(z-v 0)) (w:=v 5) (Dl ‹_›);cases U (-(z-v 0)>v 5)
  ·cases U (eJ (-(z-v 0)) (v 5)>12)
   ·exact mk (f:=2) this (by decide) (by decide)
   ·exact mk (f:=3) this (by decide) (by decide)
  ·exact(⟨by decide,by decide,by decide,by decide⟩:mw (10001,3))
theorem Vl{P:bM}{b:Nat}{w:bc}{d:Int}{s:dg}(aL:j9 s)(ai:4≤P.key b w∧P.key b w<64)(aK:P.key b w/4=P.cB (w.line+1)):j9 (put P b w d s):=by
 unfold put;refine Mine.eT (fun h=>?_) (fun h=>?_)
 ·have mem:∀k,k∈(fl (P.key b w) (⟨d,w,w.line+1⟩:Ent) s.best).map (·.1)→k=P.key b w∨k∈s.best.map (·.1):=fun k ai=>by
   rw[IZ]at ai
   split at ai
   ·exact .inr ai
   ·refine eF (dR.mp ai) (fun ai=>?_) (fun ai=>?_)
    ·exact .inr ai
    ·exact .inl (dY.mp ai)
  refine⟨?_,fun k ai=>?_,fun k ai=>?_⟩
  ·show((fl (P.key b w) (⟨d,w,w.line+1⟩:Ent) s.best).map (·.1)).Nodup;erw[IZ]
   split
   ·exact aL.nd
   ·rename_i c;refine List.nodup_append.mpr ⟨aL.nd,jg.mpr ⟨kZ,.nil⟩,fun a aB b ae e=>?_⟩;rw[dY]at ae;subst ae e;exact c aB
  ·rcases mem k ai with rfl|ai
   ·assumption
   ·exact aL.il k ai
  ·show∃v,lk (k/4) (fl _ _ _)=I v;erw[nc]
   split
   ·exact⟨_,rfl⟩
   ·rename_i c
    rcases mem k ai with rfl|ai
    ·exact absurd aK.symm c
    ·exact aL.low k ai
 ·exact aL
end
section
variable{n t:Nat}{h:List Cell}
theorem Br{G:gZ}(h0:G.N 0=wN){w:bc}{C:Calls}{a:ao}{st st1:St}(aa:aj C a st=I (.v (cG G.N w),st1)):aj C (.attr a 41) st=I (.v (nv (G.N w.cA)),st1):=by
 cases w with
 |root=>erw[show bc.root.cA=0 from rfl,h0];exact hi aa rfl
 |go=>exact hi aa rfl
theorem I0{N:Nat→fE}{w:bc}{C:Calls}{a:ao}{st st1:St}(aa:aj C a st=I (.v (cG N w),st1)):aj C (.attr a 42) st=I (.v (.int w.line),st1):=by cases w<;>exact hi aa rfl
theorem I1{N:Nat→fE}{w:bc}{C:Calls}{a:ao}{st st1:St}(aa:aj C a st=I (.v (cG N w),st1)):aj C (.attr a 43) st=I (.v (.int w.fit),st1):=by cases w<;>exact hi aa rfl
theorem wR{N:Nat→fE}{w:bc}{C:Calls}{a:ao}{st st1:St}(aa:aj C a st=I (.v (cG N w),st1)):aj C (.attr a 44) st=I (.v (.int w.bJ),st1):=by cases w<;>exact hi aa rfl
theorem Vm{C:Calls}{lo:List (Option X)}{bs:Nat}:dq C (.cons (.jm .nil) (.cons .cw (.cons .cw .nil))) ⟨lo,h,t,bs⟩=I ([.cell h.length,.cell (h.length+1),.cell (h.length+2)],⟨lo,h++[.lst [],.cw [],.cw []],t,bs⟩):=by
 have ay:aj C .cw ⟨lo,h++[.lst []],t,bs⟩=I (.cell (h.length+1),⟨lo,h++[.lst [],.cw []],t,bs⟩):=by erw[wy,b4,eR];rfl
 have au:aj C .cw ⟨lo,h++[.lst [],.cw []],t,bs⟩=I (.cell (h.length+2),⟨lo,h++[.lst [],.cw [],.cw []],t,bs⟩):=by erw[wy,b4,eR];rfl
 exact bH (ng dj rfl) (bH ay (bH au cV))
theorem abg{C:Calls}{a b:ao}{s1:St}{lo:List (Option X)}{bs m k:Nat}{ee:List Cell}{c:Cell}{v:V}{x:X}(aa:aj C a s1=I (.cell (h.length+k),s1))(ab:aj C b s1=I (.v v,⟨lo,h++ee,t,bs⟩))(hm:ee[k]? =I c)(aC:nZ c v=I x):aj C (.item a b) s1=I (x,⟨lo,h++ee,t,bs⟩):=gy aa ab ((eY k).trans hm) aC
theorem I2{C:Calls}{Q:R→St→Prop}{ss:bD}{a b c:ao}{s0 s1 s2:St}{lo:List (Option X)}{bs k:Nat}{x:X}{v:V}{ee ee':List Cell}{cl cl':Cell}(aa:aj C a s0=I (x,s1))(ab:aj C b s1=I (.cell (h.length+k),s2))(aq:aj C c s2=I (.v v,⟨lo,h++ee,t,bs⟩))(hm:ee[k]? =I cl)(aO:pj (U (bs≤h.length+k)) cl v x=I cl')(he:ee.set k cl'=ee')(av:Wp Q (bI C ss ⟨lo,h++ee',t,bs⟩)):Wp Q (bI C (.cons (.assign (.item b c) a) ss) s0):=A9 aa ab aq ((eY k).trans hm) aO (by erw[ni,he];exact av)
abbrev hn(h:List Cell)(N:Nat→fE)(s:dg)(ee:List Cell):List Cell:=h++ .lst (s.kept.map (cG N)):: .cw (fP N s.best):: .cw (gk s.least)::ee
noncomputable abbrev Bs:ao:=.bin .add (.bin .mul (.const (.int 4)) (.loc 21)) (.loc 17)
abbrev Bt:bD:=.cons (.assign (.loc 21) (.bi .min (.cons (.loc 14) (.cons (.bin .add (.attr (.loc 0) 51) (.const (.int 1))) .nil)))) (.cons (.assign (.loc 22) (.qE (.loc 10) Bs)) (.cons (.ite (.or (.cmp (.loc 22) .is (.const .bB)) (.cmp (.loc 19) .le (.item (.loc 22) (.const (.int 0)))))
 (.cons (.assign (.item (.loc 10) Bs) (.tup (.cons (.loc 19) (.cons (.loc 13) (.cons (.loc 14) .nil))))) (.cons (.assign (.item (.loc 11) (.loc 21)) (.bi .min (.cons (.loc 19) (.cons (.pd (.loc 11) (.loc 21) (.loc 19)) .nil)))) .nil)) .nil) .nil))
theorem Vn{d x:Int}:(if x<d then x else d)=min d x:=by refine Mine.eT (fun h=>?_) (fun h=>?_)<;>lia
theorem I3{i j k:Int}{st:St}(ai:(if j<i then j else i)=k):hP .min st [.v (.int i),.v (.int j)]=I (.v (.int k),st):=by subst ai;rfl
theorem Vo{G:gZ}{i:Int}(aa:1≤i)(ab:i≤4294967294):(if jC G.S+1<i then jC G.S+1 else i)=G.par.cB i:=by
 show _=bif U (G.S.loose=0)then 1 else i;unfold jC;cases U (G.S.loose=0)
 ·show(if 4294967294+1<i then _ else i)=i;exact if_neg (ez.mpr (cZ ab (by decide)))
 ·show(if 0+1<i then 0+1 else i)=1;refine bZ (fun c:(0:Int)+1<i=>?_) (fun c=>?_)
  ·erw[if_pos c];rfl
  ·erw[if_neg c];exact rN (ez.mp c) aa
theorem I4{k:Int}:(small 4||small k)=true:=by erw[j5 (a:=4) (by decide) (by decide)];rfl
theorem Bu{C:Calls}{Q:R→St→Prop}{G:gZ}{w:bc}{b:Nat}{d:Int}{s:dg}{ee:List Cell}{c2 x2 x3 x4 x5 x6 x7 cW c5 fF ho x18 x20 x21 x22 x23 x24 hq:Option X}(iI:h[G.ja]? =I (.inst 10 (lD G.s G.z G.most (c9 G.g) G.last (jC G.S))))(aa:0≤w.line)(ab:w.line≤4000)(ae:s.best.length≤100000)(ar:s.least.length≤100000)
  (aE:∀x22,Q .next ⟨[I (.cell G.ja),c2,x2,x3,x4,x5,x6,x7,cW,I (.cell h.length),I (.cell (h.length+1)),I (.cell (h.length+2)),c5,I (.v (cG G.N w)),I (.v (.int (w.line+1))),fF,ho,I (.v (.int (G.par.fit w.cA b))),x18,I (.v (.int d)),x20,I (.v (.int (G.par.cB (w.line+1)))),x22,x23,x24,hq],hn h G.N (put G.par b w d s) ee,t,h.length⟩):
  Wp Q (bI C Bt ⟨[I (.cell G.ja),c2,x2,x3,x4,x5,x6,x7,cW,I (.cell h.length),I (.cell (h.length+1)),I (.cell (h.length+2)),c5,I (.v (cG G.N w)),I (.v (.int (w.line+1))),fF,ho,I (.v (.int (G.par.fit w.cA b))),x18,I (.v (.int d)),x20,x21,x22,x23,x24,hq],hn h G.N s ee,t,h.length⟩):=by
 refine dT (fY (by repeat1' (exact(e7 (e:=.lst (s.kept.map (cG G.N)):: .cw (fP G.N s.best):: .cw (gk s.least)::ee) iI))) (I3 (Vo (kn aa 1) (k0 ‹_› rfl)))) ?_;have hd:∀lo,St.jn ⟨lo,hn h G.N s ee,t,h.length⟩ (h.length+1)=I (fP G.N s.best):=fun lo=>bz ((eY 1).trans rfl) rfl;refine dT (Uq (by repeat1' fail) (by repeat1' (exact I4)) (hd _)) ?_;have ai:g8 (4*G.par.cB (w.line+1)+G.par.fit w.cA b) (fP G.N s.best)=(lk (G.par.key b w) s.best).map (wO G.N):=wQ;erw[ai];have tN:fit (fP G.N s.best).length=true:=dO (by erw[fP,bF];exact ae);have dB:fit (gk s.least).length=true:=dO (by erw[gk,bF];exact ar);have wr:((lk (G.par.key b w) s.best).all fun o=>decide (d≤o.d))=true→∀x22,Wp Q (bI C (.cons (.assign (.item (.loc 10) Bs) (.tup (.cons (.loc 19) (.cons (.loc 13) (.cons (.loc 14) .nil))))) (.cons (.assign (.item (.loc 11) (.loc 21)) (.bi .min (.cons (.loc 19) (.cons (.pd (.loc 11) (.loc 21) (.loc 19)) .nil)))) .nil)) ⟨[I (.cell G.ja),c2,x2,x3,x4,x5,x6,x7,cW,I (.cell h.length),I (.cell (h.length+1)),I (.cell (h.length+2)),c5,I (.v (cG G.N w)),I (.v (.int (w.line+1))),fF,ho,I (.v (.int (G.par.fit w.cA b))),x18,I (.v (.int d)),x20,I (.v (.int (G.par.cB (w.line+1)))),x22,x23,x24,hq],hn h G.N s ee,t,h.length⟩):=fun ah x22=>by
  refine I2 (k:=1) (cl':=.cw (fP G.N (fl (G.par.key b w) ⟨d,w,w.line+1⟩ s.best))) (ee':=.lst (s.kept.map (cG G.N)):: .cw (fP G.N (fl (G.par.key b w) ⟨d,w,w.line+1⟩ s.best)):: .cw (gk s.least)::ee) (by repeat1' fail) (by repeat1' fail) (by repeat1' (exact I4)) rfl ?_ rfl ?_
  ·show(if fit (fP G.N s.best).length then I (Cell.cw (mL (G.par.key b w) (wO G.N ⟨d,w,w.line+1⟩) (fP G.N s.best)))else J)=_;erw[if_pos tN];exact congrArg (fun l=>I (Cell.cw l)) IY
  have hd2:∀lo,St.jn ⟨lo,h++ .lst (s.kept.map (cG G.N)):: .cw (fP G.N (fl (G.par.key b w) ⟨d,w,w.line+1⟩ s.best)):: .cw (gk s.least)::ee,t,h.length⟩ (h.length+2)=I (gk s.least):=fun lo=>bz ((eY 2).trans rfl) rfl;have om:(g8 (G.par.cB (w.line+1)) (gk s.least)).getD (.int d)= .int ((lk (G.par.cB (w.line+1)) s.least).getD d):=by unfold gk;erw[wQ];cases lk (G.par.cB (w.line+1)) s.least<;>rfl
  have hm:(if(lk (G.par.cB (w.line+1)) s.least).getD d<d then(lk (G.par.cB (w.line+1)) s.least).getD d else d)=min d ((lk (G.par.cB (w.line+1)) s.least).getD d):=Vn;refine I2 (k:=2) (cl':=.cw (gk (fl (G.par.cB (w.line+1)) (min d ((lk (G.par.cB (w.line+1)) s.least).getD d)) s.least))) (fY (bH (by repeat1' fail) (bH (Ur (by repeat1' fail) (by repeat1' fail) (by repeat1' fail) (hd2 _)) cV)) (by erw[om];exact I3 hm)) (by repeat1' fail) (by repeat1' fail) rfl ?_ rfl ?_
  ·show(if fit (gk s.least).length then I (Cell.cw (mL _ _ (gk s.least)))else J)=_;erw[if_pos dB];exact congrArg (fun l=>I (Cell.cw l)) IY
  refine gh ?_;have:=aE x22;unfold put at this;rw[if_pos ah]at this;exact this
 cases e:lk (G.par.key b w) s.best with
 |none=>
  iterate fail
  exact wr (by erw[e];rfl) _
 |some o=>
  iterate (exact rfl)
  ·intro aq;exact wr (by erw[e];exact aq) _
  ·intro aq;refine gh ?_;have:=aE (I (.v (wO G.N o)));unfold put at this;rw[if_neg (by erw[e];show¬U (d≤o.d)=true;erw[show U (d≤o.d)=false from aq];exact fun h=>nomatch h)]at this;exact this
end
section
variable{n t:Nat}{h:List Cell}
theorem rt{C:Calls}{a b:ao}{st st1 st2:St}{q:Bool}(aa:aj C a st=I (.v (.bool true),st1))(ab:aj C b st1=I (.v (.bool q),st2)):aj C (.and a b) st=I (.v (.bool q),st2):=bG aa (bz rfl (rf (bG ab rfl)))
noncomputable abbrev I5:ao:=.and (.attr (.loc 0) 50) (.and (.cmp (.loc 9) .eq (.lst .nil)) (.and (.cmp (.loc 10) .eq .cw) (.cmp (.loc 12) .eq (.bin .sub (.bi .len (.cons (.loc 2) .nil)) (.const (.int 1))))))
theorem Vp{C:Calls}{G:gZ}{s:dg}{ee:List Cell}{vs:List V}{i:Nat}{lo:List (Option X)}(iI:h[G.ja]? =I (.inst 10 (lD G.s G.z G.most (c9 G.g) G.last (jC G.S))))(hf:fit vs.length=true)
  (h0:lo[0]? =I (I (.cell G.ja))) (ab:lo[2]? =I (I (.v (.lst vs)))) (s8:lo[9]? =I (I (.cell h.length))) (Bv:lo[10]? =I (I (.cell (h.length+1)))) (Bw:lo[12]? =I (I (.v (.int (i:Nat))))):
  ∃ee',aj C I5 ⟨lo,hn h G.N s ee,t,h.length⟩=I (.v (.bool (G.last&&(s.kept.isEmpty&&(s.best.isEmpty&&U (i+1=vs.length))))),⟨lo,hn h G.N s ee',t,h.length⟩):=by
 obtain⟨kept,best,least⟩:=s;have aB:aj C (.attr (.loc 0) 50) ⟨lo,hn h G.N ⟨kept,best,least⟩ ee,t,h.length⟩=I (.v (.bool G.last),⟨lo,hn h G.N ⟨kept,best,least⟩ ee,t,h.length⟩):=tC (aP h0) (e7 (e:=.lst (kept.map (cG G.N)):: .cw (fP G.N best):: .cw (gk least)::ee) iI) rfl;cases cv:G.last with
 |false=>replace aB:=cv▸aB;exact⟨ee,tA aB rfl⟩
 |true=>
 replace aB:=cv▸aB;have ai:aj C (.cmp (.loc 9) .eq (.lst .nil)) ⟨lo,hn h G.N ⟨kept,best,least⟩ ee,t,h.length⟩=I (.v (.bool kept.isEmpty),⟨lo,hn h G.N ⟨kept,best,least⟩ ee,t,h.length⟩):=by refine hW (aP s8) (hX dj rfl) (bz (a:=.lst (kept.map (cG G.N))) (eo (gV (eY 0)) rfl) (bz rfl ?_));cases kept<;>rfl
 induction kept using bY with
 |cons k r=>exact⟨ee,rt aB (tA ai rfl)⟩
 |nil=>
 have aw:aj C .cw ⟨lo,hn h G.N ⟨[],best,least⟩ ee,t,h.length⟩=I (.cell (h.length+(3+ee.length)),⟨lo,hn h G.N ⟨[],best,least⟩ (ee++[.cw []]),t,h.length⟩):=by erw[wy,b4,eR];show I (X.cell (h.length+(ee.length+3)),_)=_;erw[o2 ee.length 3];rfl
 have hd:aj C (.cmp (.loc 10) .eq .cw) ⟨lo,hn h G.N ⟨[],best,least⟩ ee,t,h.length⟩=I (.v (.bool best.isEmpty),⟨lo,hn h G.N ⟨[],best,least⟩ (ee++[.cw []]),t,h.length⟩):=hW (aP Bv) aw (bz ((eY 1).trans rfl) (bz ((eY (3+ee.length)).trans (by erw[o2];show(ee++[Cell.cw []])[ee.length]? =_;exact tD)) (by cases best<;>rfl)))
 induction best using bY with
 |cons=>exact⟨_,rt aB (rt ai (tA hd rfl))⟩
 |nil=>
 refine⟨ee++[.cw []],rt aB (rt ai (rt hd ?_))⟩;have:U ((i:Int)=(vs.length:Int)-1)=U (i+1=vs.length):=decide_eq_decide.mpr ⟨fun h=>Mq ‹_›,fun h=>Mp ‹_›⟩;show aj C _ _=I (X.v (V.bool (U (i+1=vs.length))),_);erw[←this];exact mn (aP Bw) (oB (fY (bH (aP ab) cV) (j6 hf)) a9)
theorem Vq{C:Calls}{Q:R→St→Prop}{ss:bD}{G:gZ}{s:dg}{ee:List Cell}{vs:List V}{i:Nat}{lo:List (Option X)}(iI:h[G.ja]? =I (.inst 10 (lD G.s G.z G.most (c9 G.g) G.last (jC G.S))))(hf:fit vs.length=true)
  (h0:lo[0]? =I (I (.cell G.ja))) (ab:lo[2]? =I (I (.v (.lst vs)))) (s8:lo[9]? =I (I (.cell h.length))) (Bv:lo[10]? =I (I (.cell (h.length+1)))) (Bw:lo[12]? =I (I (.v (.int (i:Nat)))))
  (av:∀ee',Wp Q (bI C ss ⟨lo.set 18 (I (.v (.bool (G.last&&(s.kept.isEmpty&&(s.best.isEmpty&&U (i+1=vs.length))))))),hn h G.N s ee',t,h.length⟩)):Wp Q (bI C (.cons (.assign (.loc 18) I5) ss) ⟨lo,hn h G.N s ee,t,h.length⟩):=
 by obtain⟨ee',e⟩:=Vp (C:=C) (s:=s) (ee:=ee) (t:=t) iI hf h0 ab s8 Bv Bw;exact dT e (av ee')
inductive oJ(G:gZ)(act:List bc)(b:Nat)(h:List Cell)(t:Nat)(vs:List V)(st:St):Prop where
 |mk (pre r:List bc) (s:dg) (ee:List Cell) (c5 x13 x14 fF ho iJ x18 x19 x20 x21 x22 x23 x24 hq:Option X) (ay:act=pre++r) (au:vs=pairs pre.length (r.map (cG G.N))) (bo:ih G.par G.last act.length b pre.length r s=ih G.par G.last act.length b 0 act ⟨[],[],[]⟩) (cg:s.kept.length≤pre.length) (dC:s.least.length≤pre.length) (gG:j9 s)
  (wU:st=⟨[I (.cell G.ja),I (.v (nv (G.N b))),I (.v (.lst (act.map (cG G.N)))),I (.v (.bool (U ((G.N b).p=G.len)))),I (.v (.int (G.N b).p)),I (.v (.int (G.N b).b9)),I (.v (.int (G.N b).sort)),I (.v (c9 (G.N b).en)),I (.cell G.s),I (.cell h.length),I (.cell (h.length+1)),I (.cell (h.length+2)),c5,x13,x14,fF,ho,iJ,x18,x19,x20,x21,x22,x23,x24,hq],hn h G.N s ee,t,h.length⟩)
def p2(w:bc):Prop:=0≤w.line∧w.line≤13
theorem Vr{G:gZ}{b:Nat}{w:bc}(hw:p2 w):(4≤G.par.key b w∧G.par.key b w<64)∧G.par.key b w/4=G.par.cB (w.line+1):=by
 have av:mw (e8 G.z (gj G.g (G.N w.cA) (G.N b))):=p1;have aa:0≤G.par.fit w.cA b:=av.f0;have ab:G.par.fit w.cA b≤3:=av.f1;have aq:1≤G.par.cB (w.line+1)∧G.par.cB (w.line+1)≤14:=by
  show 1≤(bif U (G.S.loose=0)then 1 else w.line+1)∧(bif U (G.S.loose=0)then 1 else w.line+1)≤14;cases U (G.S.loose=0)
  ·exact⟨Int.le_add_of_nonneg_left hw.1,kn hw.2 1⟩
  ·exact(⟨by decide,by decide⟩:(1:Int)≤1∧(1:Int)≤14)
 exact⟨⟨kj (C1 aq.1 (by decide)) aa,mB (kj (C1 aq.2 (by decide)) ab) (by decide)⟩,(q5 ⟨aa,ab⟩).1⟩
theorem I6{P:bM}{l:Bool}{m b i:Nat}{w:bc}{s:dg}{o X:Bool}(aO:P.over b w=o)(mx:gS P l m b i w s=X)(ab:(U (P.most<P.bad w.cA b)&& !X)=true):turn P l m b i w s=if o then s else⟨s.kept++[w],s.best,s.least⟩:=by subst aO mx;exact if_pos ab
theorem Bx{P:bM}{l:Bool}{m b i:Nat}{w:bc}{s:dg}{o X:Bool}(aO:P.over b w=o)(mx:gS P l m b i w s=X)(ab:(U (P.most<P.bad w.cA b)&& !X)=false):turn P l m b i w s=put P b w (if X then w.bJ else P.fN b w) (if o then s else⟨s.kept++[w],s.best,s.least⟩):=by subst aO mx;exact if_neg (by erw[ab];decide)
structure TurnOk(s s':dg):Prop where
 k:j9 s'
 kept:s'.kept.length≤s.kept.length+1
 least:s'.least.length≤s.least.length+1
theorem I7{G:gZ}{b i:Nat}{m:Nat}{w:bc}{s:dg}(hw:p2 w)(aL:j9 s):TurnOk s (turn G.par G.last m b i w s):=by
 have ai:=Vr (G:=G) (b:=b) hw;have aux:∀(s1:dg) (d:Int),j9 s1→s1.kept.length≤s.kept.length+1→s1.least=s.least→TurnOk s (put G.par b w d s1):=fun s1 d aa ab aq=>by
  refine⟨Vl aa ai.1 ai.2,?_,?_⟩
  ·unfold put;refine Mine.eT (fun h=>?_) (fun h=>?_)<;>exact ab
  ·unfold put;refine Mine.eT (fun h=>?_) (fun h=>?_)
   ·erw[aq];exact Vj
   ·erw[aq];exact lN _
 have aa:j9 (if G.par.over b w then s else⟨s.kept++[w],s.best,s.least⟩):=by refine Mine.eT (fun h=>?_) (fun h=>?_);exact aL;exact⟨aL.nd,aL.il,aL.low⟩
 have ab:(if G.par.over b w then s else⟨s.kept++[w],s.best,s.least⟩:dg).kept.length≤s.kept.length+1:=by refine Mine.eT (fun h=>?_) (fun h=>?_);exact lN _;exact eQ b4
 have aq:(if G.par.over b w then s else⟨s.kept++[w],s.best,s.least⟩:dg).least=s.least:=by refine Mine.eT (fun h=>?_) (fun h=>?_)<;>rfl
 unfold turn
 dsimp only
 refine Mine.eT (fun h=>?_) (fun h=>?_)
 ·exact⟨aa,ab,by erw[aq];exact lN _⟩
 ·exact aux _ _ aa ab aq
theorem oJ.next{G:gZ}{act:List bc}{b:Nat}{pre r:List bc}{w:bc}{s s':dg}{ee:List Cell}{c5 x13 x14 fF ho iJ x18 x19 x20 x21 x22 x23 x24 hq:Option X}(hw:p2 w)(ay:act=pre++w::r)(bo:ih G.par G.last act.length b pre.length (w::r) s=ih G.par G.last act.length b 0 act ⟨[],[],[]⟩)(cg:s.kept.length≤pre.length)(dC:s.least.length≤pre.length)(gG:j9 s)(aL:turn G.par G.last act.length b pre.length w s=s'):
  oJ G act b h t (pairs (pre.length+1) (r.map (cG G.N))) ⟨[I (.cell G.ja),I (.v (nv (G.N b))),I (.v (.lst (act.map (cG G.N)))),I (.v (.bool (U ((G.N b).p=G.len)))),I (.v (.int (G.N b).p)),I (.v (.int (G.N b).b9)),I (.v (.int (G.N b).sort)),I (.v (c9 (G.N b).en)),I (.cell G.s),I (.cell h.length),I (.cell (h.length+1)),I (.cell (h.length+2)),c5,x13,x14,fF,ho,iJ,x18,x19,x20,x21,x22,x23,x24,hq],hn h G.N s' ee,t,h.length⟩:=by
 subst aL;have k:=I7 (G:=G) (b:=b) (i:=pre.length) (m:=act.length) hw gG;have ar:(pre++[w]).length=pre.length+1:=b4;exact .mk (pre++[w]) r _ ee c5 x13 x14 fF ho iJ x18 x19 x20 x21 x22 x23 x24 hq (by erw[ay,eR];rfl) (by erw[ar]) (by erw[ar];exact bo) (by erw[ar];exact bR k.kept (jf cg)) (by erw[ar];exact bR k.least (jf dC)) k.k rfl
theorem I8{G:gZ}{b:Nat}{w:bc}:w.bJ+(nt G.S.cS (G.par.bad w.cA b) (G.N b).b9+p0 G.S (U ((G.N b).sort=1)&&U ((G.N w.cA).sort=1)) (U ((G.N b).p=G.len)) (((G.par.fit w.cA b-w.fit).natAbs:Nat):Int))=G.par.fN b w:=by
 have:(bif U ((((G.par.fit w.cA b-w.fit).natAbs:Nat):Int)>1)then G.S.cu else 0)=G.par.cu (G.par.fit w.cA b) w.fit:=by
  delta bM.cu;refine bZ (fun c:1<(G.par.fit w.cA b-w.fit).natAbs=>?_) (fun c=>?_)
  ·erw[if_pos c,decide_eq_true (by exact mH ‹_›)];rfl
  ·erw[if_neg c,decide_eq_false (by exact Dx ‹_›)];rfl
 delta bM.fN p0;erw[this];show _=w.bJ+(nt G.S.cS (G.par.bad w.cA b) (G.N b).b9+_)+_;erw[qx w.bJ,qx]
end
section
variable{n t:Nat}{h:List Cell}
inductive tO(G:gZ)(b:Nat)(s:dg)(h:List Cell)(t:Nat)(vs:List V)(st:St):Prop where
 |mk (a6:List Int) (acc:List V) (ee:List Cell) (x0 x2 x3 x4 x5 x6 x7 c5 x13 x14 fF ho iJ x18 x19 x20 x21 x22 x23 x24 hq:Option X) (au:vs=a6.map .int) (bo:acc++(a6.filterMap (iF G.par b s)).map (cG G.N)=(fin G.par b s).map (cG G.N)) (cg:acc.length+a6.length≤6000) (dC:∀k,k∈a6→k∈s.best.map (·.1))
  (wU:st=⟨[x0,I (.v (nv (G.N b))),x2,x3,x4,x5,x6,x7,I (.cell G.s),I (.cell h.length),I (.cell (h.length+1)),I (.cell (h.length+2)),c5,x13,x14,fF,ho,iJ,x18,x19,x20,x21,x22,x23,x24,hq],h++ .lst acc:: .cw (fP G.N s.best):: .cw (gk s.least)::ee,t,h.length⟩)
theorem zF{st:St}{m:Nat}{kv:List (Int×V)}(hd:st.jn m=I kv)(ar:kv.length<64):hP .sorted st [.cell m]=I (.v (.lst ((sortI (kv.map (·.1))).map .int)),st):=by have e:hP .sorted st [.cell m]=(st.jn m).bind fun kvs=>if[X.cell m].length=1∧kvs.length<64 then I (.v (.lst ((sortI (kvs.map (·.1))).map .int)),st)else J:=rfl;erw[e];exact bz hd (if_pos ⟨rfl,ar⟩)
theorem I9:∀l:List Int,(sortI l).length=l.length:=by
 intro aT
 induction aT with
 |nil=>exact rfl
 |cons a r aD=>
  have:∀l:List Int,(insI a l).length=l.length+1:=fun l=>by
   induction l with
   |nil=>rfl
   |cons b r aG=>erw[DT];refine Mine.eT (fun h=>?_) (fun h=>?_);rfl;erw[gA,aG];rfl
  erw[DU,this,aD];rfl
theorem Vs{P:bM}{b:Nat}{s:dg}:(fin P b s).length≤s.kept.length+s.best.length:=by unfold fin;erw[b4];have:=aad (iF P b s) (sortI (s.best.map (·.1)));rw[I9,bF]at this;exact lR ‹_› _
theorem I'{N:Nat→fE}{l:List (Int×Ent)}:(fP N l).map (·.1)=l.map (·.1):=jP
theorem Vt{P:bM}{b:Nat}{s:dg}{k v:Int}{o:Ent}(aO:lk k s.best=I o)(aJ:lk (k/4) s.least=I v):iF P b s k=if o.d≤v+P.A then I (.go b o.ln (k%4) o.d o.w)else J:=by unfold iF;erw[aO,aJ];rfl
noncomputable abbrev Vu:bD:=.cons (.mK (.one 12) (.of (.bi .sorted (.cons (.loc 10) .nil))) (.cons (.assign (.tup (.cons (.loc 19) (.cons (.loc 13) (.cons (.loc 14) .nil)))) (.item (.loc 10) (.loc 12))) (.cons (.ite (.cmp (.loc 19) .le (.bin .add (.item (.loc 11) (.bin .fdiv (.loc 12) (.const (.int 4)))) (.bi .abs (.cons (.attr (.loc 8) 34) .nil))))
 (.cons (.expr (.append (.loc 9) (.new 9 (.cons (.loc 1) (.cons (.loc 14) (.cons (.bin .mod (.loc 12) (.const (.int 4))) (.cons (.loc 19) (.cons (.loc 13) .nil)))))))) .nil) .nil) .nil))) (.cons (.ret (.loc 9)) .nil)
theorem tO.next{G:gZ}{b:Nat}{s:dg}{k:Int}{a6:List Int}{acc Ja new:List V}{ee:List Cell}{x0 x2 x3 x4 x5 x6 x7 c5 x13 x14 fF ho iJ x18 x19 x20 x21 x22 x23 x24 hq:Option X}(bo:acc++((k::a6).filterMap (iF G.par b s)).map (cG G.N)=(fin G.par b s).map (cG G.N))(cg:acc.length+(k::a6).length≤6000)(dC:∀j,j∈k::a6→j∈s.best.map (·.1))(aA:new=(iF G.par b s k).toList.map (cG G.N))(aB:acc++new=Ja):
  tO G b s h t (a6.map .int) ⟨[x0,I (.v (nv (G.N b))),x2,x3,x4,x5,x6,x7,I (.cell G.s),I (.cell h.length),I (.cell (h.length+1)),I (.cell (h.length+2)),c5,x13,x14,fF,ho,iJ,x18,x19,x20,x21,x22,x23,x24,hq],h++ .lst Ja:: .cw (fP G.N s.best):: .cw (gk s.least)::ee,t,h.length⟩:=by
 subst aB aA;refine .mk a6 _ ee x0 x2 x3 x4 x5 x6 x7 c5 x13 x14 fF ho iJ x18 x19 x20 x21 x22 x23 x24 hq rfl ?_ ?_ (fun j a'=>dC j (.tail _ a')) rfl
 ·erw[←bo,eR,←fy];cases aE:iF G.par b s k with
  |none=>erw[uA,aE];rfl
  |some w=>erw[uA,aE];rfl
 ·rw[gA]at cg;erw[b4,bF];cases iF G.par b s k with
  |none=>exact c' ‹_›
  |some=>exact yd ‹_›
theorem Vv{G:gZ}{b:Nat}{s:dg}{ee:List Cell}{x0 x2 x3 x4 x5 x6 x7 c5 x13 x14 fF ho iJ x18 x19 x20 x21 x22 x23 x24 hq:Option X}(ok:Bp G h)(ai:j9 s)(ar:s.kept.length≤5000):Wp (Out false h (.v (.lst ((fin G.par b s).map (cG G.N))),h,t)) (bI (bu bl (n+2)) Vu ⟨[x0,I (.v (nv (G.N b))),x2,x3,x4,x5,x6,x7,I (.cell G.s),I (.cell h.length),I (.cell (h.length+1)),I (.cell (h.length+2)),c5,x13,x14,fF,ho,iJ,x18,x19,x20,x21,x22,x23,x24,hq],hn h G.N s ee,t,h.length⟩):=by
 have hd:∀lo,St.jn ⟨lo,hn h G.N s ee,t,h.length⟩ (h.length+1)=I (fP G.N s.best):=fun lo=>bz ((eY 1).trans rfl) rfl;have vl:=ai.len;have Vw:(sortI (s.best.map (·.1))).length=s.best.length:=by erw[I9,bF]
 refine gW (hk (fY (bH (by repeat1' fail) cV) (zF (hd _) (by unfold fP;erw[bF];exact nT ‹_› rfl))) rfl (dO (by erw[I',bF];exact x8 ‹_› ‹_› rfl))) ?_;erw[I'];refine i7 (tO G b s h t) ?_ ?_ _ _ (.mk _ (s.kept.map (cG G.N)) ee x0 x2 x3 x4 x5 x6 x7 c5 x13 x14 fF ho iJ x18 x19 x20 x21 x22 x23 x24 hq rfl ?_ (by erw[bF,Vw];exact kp ‹_› ‹_› rfl) (fun k ai=>H3.mp ai) rfl)
 ·rintro v vs st ⟨a6,acc,ee,x0,x2,x3,x4,x5,x6,x7,c5,x13,x14,fF,ho,iJ,x18,x19,x20,x21,x22,x23,x24,hq,au,bo,cg,dC,rfl⟩
  induction a6 using bY with
  |nil=>injections au
  |cons k a6=>
  obtain⟨rfl,rfl⟩:=List.cons.inj au;have Jb:=dC k (.head _);obtain⟨o,aO⟩:=H0.mp Jb;obtain⟨v,aJ⟩:=ai.low k Jb;have Vx:nZ (.cw (fP G.N s.best)) (.int k)=I (.v (.tup [.int o.d,cG G.N o.w,.int o.ln])):=by show(g8 k (fP G.N s.best)).map X.v=_;unfold fP;erw[wQ,aO];rfl
  have Vy:nZ (.cw (gk s.least)) (.int (k.fdiv 4))=I (.v (.int v)):=by show(g8 (k.fdiv 4) (gk s.least)).map X.v=_;unfold gk;erw[wQ,r0 _ (by decide),aJ];rfl
  have hf:=dO (by rw[gA]at cg;exact ye ‹_› rfl);have aA:=Vt (P:=G.par) (b:=b) aO aJ;have ax:((G.S.cu.natAbs:Nat):Int)=G.par.A:=xJ ok.cu;refine fun Q cQ el=>⟨_,fD,?_⟩
  iterate (first|exact eY 1|exact eY 2|exact Vx|exact Vy|exact(e7 (e:=.lst acc:: .cw (fP G.N s.best):: .cw (gk s.least)::ee) ok.aL))
  ·intro aa;rw[ax]at aa
   iterate (first|with_reducible exact IG|exact hf)
   rw[if_pos (of_decide_eq_true aa)]at aA;exact cQ _ _ rfl (tO.next bo cg dC (by erw[aA,←aao _ (by decide)];rfl) rfl)
  ·intro aa;rw[ax]at aa
   iterate fail
   rw[if_neg (of_decide_eq_false aa)]at aA;exact cQ _ _ rfl (tO.next bo cg dC (new:=[]) (by erw[aA];rfl) (ei _))
 ·rintro st ⟨a6,acc,ee,x0,x2,x3,x4,x5,x6,x7,c5,x13,x14,fF,ho,iJ,x18,x19,x20,x21,x22,x23,x24,hq,au,bo,cg,dC,rfl⟩
  induction a6 using bY with
  |cons=>injections au
  |nil=>
  show Wp _ _
  iterate fail
  exact wF 0 rfl (by erw[←bo];exact(ei _).symm)
 ·unfold fin;erw[fy]
end
section
variable{n t:Nat}{h:List Cell}
set_option maxHeartbeats 2000000 in
theorem Vz{G:gZ}{act:List bc}{b:Nat}(ok:Bp G h)(hw:∀w,w∈act→p2 w)(aA:act.length≤5000):bu bl (n+3) 34 [.cell G.ja,.v (nv (G.N b)),.v (.lst (act.map (cG G.N))),.v (.bool (U ((G.N b).p=G.len)))] h t h.length=I (.v (.lst ((ly G.par G.last b act).map (cG G.N))),h,t):=by
 have Jc:fit (act.map (cG G.N)).length=true:=fZ (by assumption) (by first|decide|lia)
 ac_rfl
 have iI:=ok.iI;refine hl (by repeat1' (exact rfl)) (by iterate fail) ?_;refine dT (by repeat1' (exact iI)) ?_;refine hl Vm (by iterate fail) ?_;refine gW (A6 (by repeat1' fail) Jc) ?_;refine i7 (oJ G act b h t) ?_ ?_ _ _ (.mk [] act ⟨[],[],[]⟩ [] J J J J J J J J J J J J J J rfl rfl rfl (bE _) (bE _) ⟨.nil,fun ag h=>(nomatch h),fun ag h=>(nomatch h)⟩ rfl)
 ·rintro v vs st ⟨pre,r,s,ee,c5,x13,x14,fF,ho,iJ,x18,x19,x20,x21,x22,x23,x24,hq,ay,au,bo,cg,dC,gG,rfl⟩;cases r with
  |nil=>cases au
  |cons w r=>
  obtain⟨rfl,rfl⟩:=List.cons.inj au;have j':p2 w:=hw w (by erw[ay];simp);have iD:pre.length≤5000:=bR (C2 pre (w::r)).length_le (ay▸aA);have av:mw (e8 G.z (gj G.g (G.N w.cA) (G.N b))):=p1;have q8:Num (G.par.bad w.cA b):=⟨d0 (show 0≤G.par.bad w.cA b from av.lW) rfl,d3 (show G.par.bad w.cA b≤10001 from av.g4) rfl⟩
  refine fun Q cQ el=>⟨_,tF,?_⟩;obtain⟨T,d'⟩:∃T,T=Bt:=⟨_,rfl⟩
  unfold Bt at d';erw[←d'];have a5:=e7 (e:=.lst (s.kept.map (cG G.N)):: .cw (fP G.N s.best):: .cw (gk s.least)::ee) iI;have eW:=ok.eW;have aM:1≤w.line+1:=kn j'.1 1;have bt:w.line+1≤4294967294:=d3 (kn j'.2 1) rfl;have eH:∀{h:List Cell},bu bl (n+2) 31 [.v (.int G.z),.v (bif U ((G.N w.cA).st>(G.N b).p)then c9 G.g else c9 fun k=>(G.N b).en k-(G.N w.cA).jD k+G.g k)] h t h.length=I (.v (.tup [.int (G.par.bad w.cA b),.int (G.par.fit w.cA b)]),h,t):=fun{h}=>by
   have e:(bif U ((G.N w.cA).st>(G.N b).p)then c9 G.g else c9 fun k=>(G.N b).en k-(G.N w.cA).jD k+G.g k)=c9 (gj G.g (G.N w.cA) (G.N b)):=by unfold gj;cases U ((G.N w.cA).st>(G.N b).p)<;>rfl
   erw[e];exact Vg (ok.fit w.cA b)
  iterate (first|((with_reducible apply I0);(repeat1' fail))|((with_reducible apply Br eW);(repeat1' fail))|with_reducible exact U'|with_reducible exact UZ aM bt|exact a5|exact eH)
  ·intro aa;refine rk ?_;intro _;have aO:G.par.over b w=true:=aa;refine Vq (i:=pre.length) iI Jc rfl rfl rfl rfl rfl fun ee'=>?_;have VA:(G.last&&(s.kept.isEmpty&&(s.best.isEmpty&&U (pre.length+1=(act.map (cG G.N)).length))))=gS G.par G.last act.length b pre.length w s:=by unfold gS;erw[aO,bF,lU]
   erw[VA];generalize mx:gS G.par G.last act.length b pre.length w s=X;have a5:=e7 (e:=.lst (s.kept.map (cG G.N)):: .cw (fP G.N s.best):: .cw (gk s.least)::ee') iI;have tP:=e7 (e:=.lst (s.kept.map (cG G.N)):: .cw (fP G.N s.best):: .cw (gk s.least)::ee') ok.aL
   iterate (exact a5)
   ·intro ab;refine rk ?_;intro _
    iterate fail
    exact cQ _ _ rfl (oJ.next j' ay bo cg dC gG (I6 aO mx ab))
   ·intro ab;refine rk ?_;intro _
    iterate ((with_reducible apply wR);(repeat1' fail))
    ·intro aq;have ar:=IW (n:=n+1) (t:=t) tP ok.cS q8 (ok.b9 b);have hp:=fun(tw en:Bool) ap=>IX (n:=n+1) (t:=t) (tw:=tw) (en:=en) (ap:=ap) tP
     iterate (first|((with_reducible apply I1);(repeat1' fail))|((with_reducible apply Br eW);(repeat1' fail))|exact ar|exact hp _ _ _)
     erw[I8,d'];refine Bu iI j'.1 (d3 j'.2 rfl) (cz gG.len rfl) (r3 dC iD rfl) fun x22=>cQ _ _ rfl (oJ.next j' ay bo cg dC gG ((Bx aO mx ab).trans (by erw[show X=false from by revert aq;cases X<;>decide];rfl)))
    ·intro aq;erw[d'];refine Bu iI j'.1 (d3 j'.2 rfl) (cz gG.len rfl) (r3 dC iD rfl) fun x22=>cQ _ _ rfl (oJ.next j' ay bo cg dC gG ((Bx aO mx ab).trans (by erw[show X=true from by revert aq;cases X<;>decide];rfl)))
  ·intro aa;refine rk ?_;intro _;have aO:G.par.over b w=false:=aa;have mx:gS G.par G.last act.length b pre.length w s=false:=by unfold gS;erw[aO];rfl
   have VB:fit (s.kept.map (cG G.N)).length=true:=fZ (by assumption) (by first|decide|lia)
   have a5:=e7 (e:=.lst (s.kept.map (cG G.N)++[cG G.N w]):: .cw (fP G.N s.best):: .cw (gk s.least)::ee) iI;have tP:=e7 (e:=.lst (s.kept.map (cG G.N)++[cG G.N w]):: .cw (fP G.N s.best):: .cw (gk s.least)::ee) ok.aL;have Jd:s.kept.map (cG G.N)++[cG G.N w]=(s.kept++[w]).map (cG G.N):=by erw[fy];rfl
   iterate (first|exact VB|exact a5)
   ·intro ab;refine rk ?_;intro _
    iterate fail
    erw[Jd];exact cQ _ _ rfl (oJ.next (s':=⟨s.kept++[w],s.best,s.least⟩) j' ay bo cg dC gG (I6 aO mx ab))
   ·intro ab;refine rk ?_;intro _;have ar:=IW (n:=n+1) (t:=t) tP ok.cS q8 (ok.b9 b);have hp:=fun(tw en:Bool) ap=>IX (n:=n+1) (t:=t) (tw:=tw) (en:=en) (ap:=ap) tP
    iterate (first|((with_reducible apply wR);(repeat1' fail))|((with_reducible apply I1);(repeat1' fail))|((with_reducible apply Br eW);(repeat1' fail))|exact ar|exact hp _ _ _)
    erw[I8,d',Jd];refine Bu (s:=⟨s.kept++[w],s.best,s.least⟩) iI j'.1 (d3 j'.2 rfl) (cz gG.len rfl) (r3 dC iD rfl) fun x22=>cQ _ _ rfl (oJ.next j' ay bo cg dC gG (Bx aO mx ab))
 ·rintro st ⟨pre,r,s,ee,c5,x13,x14,fF,ho,iJ,x18,x19,x20,x21,x22,x23,x24,hq,ay,au,bo,cg,dC,gG,rfl⟩;cases r with
  |cons=>cases au
  |nil=>
  have ht:(fin G.par b s)=ly G.par G.last b act:=congrArg (fin G.par b) bo;have iD:pre.length≤5000:=bR (C2 pre []).length_le (ay▸aA);erw[←ht];exact Vv ok gG (bR cg iD)
end
section
variable{n t:Nat}{h:List Cell}
inductive VC(N:Nat→fE)(ws:List bc)(L:Int)(h:List Cell)(t:Nat)(vs:List V)(st:St):Prop where
 |mk (r:List bc) (b:bc) (x3 x4 x5 x6 x7 cW cX x10:Option X) (au:vs=r.map (cG N)) (bo:bestOf b r=bestOf (ws.headD .root) ws) (wU:st=⟨[I (.v (.lst (ws.map (cG N)))),I (.v (.int L)),I (.v (cG N b)),x3,x4,x5,x6,x7,cW,cX,x10],h,t,h.length⟩)
inductive VD(N:Nat→fE)(ws:List bc)(L:Int)(b:bc)(h:List Cell)(t:Nat)(vs:List V)(st:St):Prop where
 |mk (r:List bc) (s:bc×Int) (x3 x6 x7 cW cX x10:Option X) (au:vs=r.map (cG N)) (bo:r.foldl (fC b.line L) s=ws.foldl (fC b.line L) (b,0)) (wU:st=⟨[I (.v (.lst (ws.map (cG N)))),I (.v (.int L)),I (.v (cG N b)),x3,I (.v (cG N s.1)),I (.v (.int s.2)),x6,x7,cW,cX,x10],h,t,h.length⟩)
theorem VE{a b c d e f:Prop}[Decidable a][Decidable b][Decidable c][Decidable d][Decidable e][Decidable f](h:((decide a&&decide b||decide c&&decide d)||decide e&&decide f)=true):(a∧b∨c∧d)∨e∧f:=by simpa using h
theorem VF{a b c d e f:Prop}[Decidable a][Decidable b][Decidable c][Decidable d][Decidable e][Decidable f](h:((decide a&&decide b||decide c&&decide d)||decide e&&decide f)=false):¬((a∧b∨c∧d)∨e∧f):=fun x=>by
 have:((decide a&&decide b||decide c&&decide d)||decide e&&decide f)=true:=by simpa using x
 rw[h]at this;injections this
theorem tr{N:Nat→fE}{ws:List bc}{L:Int}(aA:ws≠[])(ar:ws.length≤5000):bu bl (n+1) 35 [.v (.lst (ws.map (cG N))),.v (.int L)] h t h.length=I (.v (.tup [cG N (picked ws L).1,.int (picked ws L).2]),h,t):=by
 have hf:fit (ws.map (cG N)).length=true:=fZ (by assumption) (by first|decide|lia)
 have h0:gL (.lst (ws.map (cG N))) (.int 0)=I (cG N (ws.headD .root)):=by
  induction ws using bY with
  |nil=>exact absurd rfl aA
  |cons w r=>exact item_at (k:=0) rfl rfl (by decide)
 ac_rfl
 iterate (exact h0)
 refine gW (hk (by repeat1' fail) rfl hf) ?_;refine i7 (VC N ws L h t) ?_ ?_ _ _ (.mk ws _ _ _ _ _ _ _ _ _ rfl rfl rfl)
 ·rintro v vs st ⟨r,b,x3,x4,x5,x6,x7,cW,cX,x10,au,bo,rfl⟩
  induction r using bY with
  |nil=>injections au
  |cons w r=>
  obtain⟨rfl,rfl⟩:=List.cons.inj au;have bo:bestOf (if w.bJ<b.bJ then w else b) r=_:=bo;refine fun Q cQ el=>⟨_,fD,?_⟩
  iterate ((with_reducible apply wR);(repeat1' fail))
  ·intro aa
   iterate fail
   rw[if_pos (of_decide_eq_true aa)]at bo;exact cQ _ _ rfl (.mk r w _ _ _ _ _ _ _ _ rfl bo rfl)
  ·intro aa
   iterate fail
   rw[if_neg (of_decide_eq_false aa)]at bo;exact cQ _ _ rfl (.mk r b _ _ _ _ _ _ _ _ rfl bo rfl)
 ·rintro st ⟨r,b,x3,x4,x5,x6,x7,cW,cX,x10,au,bo,rfl⟩
  induction r using bY with
  |cons=>injections au
  |nil=>
  have bo:b=_:=bo;show Wp _ _
  iterate fail
  ·intro aa;have cv:L≠0:=by intro e;rw[e]at aa;exact absurd aa (by decide)
   refine gW (hk (by repeat1' fail) rfl hf) ?_;refine i7 (VD N ws L b h t) ?_ ?_ _ _ (.mk ws (b,0) _ _ _ _ _ _ rfl rfl rfl)
   ·rintro v vs st ⟨r,s,x3,x6,x7,cW,cX,x10,au,bo,rfl⟩
    induction r using bY with
    |nil=>injections au
    |cons w r=>
    obtain⟨rfl,rfl⟩:=List.cons.inj au;have bo:r.foldl (fC b.line L) (fC b.line L s w)=_:=bo;unfold fC at bo;refine fun Q cQ el=>⟨_,fD,?_⟩
    iterate (first|((with_reducible apply wR);(repeat1' fail))|((with_reducible apply I0);(repeat1' fail)))
    ·intro aa
     iterate fail
     rw[if_pos (VE aa)]at bo;exact cQ _ _ rfl (.mk r (w,w.line-b.line) _ _ _ _ _ _ rfl bo rfl)
    ·intro aa
     iterate fail
     rw[if_neg (VF aa)]at bo;exact cQ _ _ rfl (.mk r s _ _ _ _ _ _ rfl bo rfl)
   ·rintro st ⟨r,s,x3,x6,x7,cW,cX,x10,au,cg,rfl⟩
    induction r using bY with
    |cons=>injections au
    |nil=>
    show Wp _ _
    iterate fail
    have cg:s=_:=cg;refine dN ?_;unfold picked;erw[if_neg cv,←bo,←cg]
  ·intro aa;have cv:L=0:=by
    by_cases e:L=0
    ·exact e
    ·rw[decide_eq_false e]at aa;injections aa
   iterate fail
   refine dN ?_;unfold picked;erw[if_pos cv,←bo]
theorem VG{N:Nat→fE}{C:Calls}{a:ao}{st st1:St}{s:Nat}{l f d:Int}{b:bc}(aa:aj C a st=I (.v (cG N (.go s l f d b)),st1)):aj C (.attr a 45) st=I (.v (cG N b),st1):=hi aa rfl
theorem VH{N:Nat→fE}{w:bc}:ks (cG N w)=false:=by cases w<;>rfl
theorem VI{C:Calls}{N:Nat→fE}{x2 x3 x4:Option X}:∀(w:bc) (acc:List V) (k:Nat),w.path.length<k→acc.length+w.path.length≤1000→lZ (fun st=>hO (aj C (.cmp (.attr (.loc 0) 45) .nW (.const .bB)) st)) (bI C (.cons (.expr (.append (.loc 1) (.item (.attr (.loc 0) 41) (.const (.int 0))))) (.cons (.assign (.loc 0) (.attr (.loc 0) 45)) .nil))) k ⟨[I (.v (cG N w)),I (.cell h.length),x2,x3,x4],h++[.lst acc],t,h.length⟩=I (.next,⟨[I (.v (cG N .root)),I (.cell h.length),x2,x3,x4],h++[.lst (acc++w.path.map fun s=>.int (N s).p)],t,h.length⟩):=by
 intro w
 induction w with
 |root=>
  intro acc k ai _
  induction k using fe with
  |zero=>exact absurd ai (o5 _)
  |succ k=>have e:aj C (.cmp (.attr (.loc 0) 45) .nW (.const .bB)) ⟨[I (.v (cG N .root)),I (.cell h.length),x2,x3,x4],h++[.lst acc],t,h.length⟩=I (.v (.bool false),⟨[I (.v (cG N .root)),I (.cell h.length),x2,x3,x4],h++[.lst acc],t,h.length⟩):=wu (u:=.bB) (hi (aP rfl) rfl);erw[Ba (tE e)];erw[ei]
 |go s l f d b aD=>
  intro acc k ai ar
  induction k using fe with
  |zero=>exact absurd ai (o5 _)
  |succ k=>
   have hp:(bc.go s l f d b).path.length=b.path.length+1:=rfl;have hf:=dO (ye ‹_› rfl);have e:aj C (.cmp (.attr (.loc 0) 45) .nW (.const .bB)) ⟨[I (.v (cG N (.go s l f d b))),I (.cell h.length),x2,x3,x4],h++[.lst acc],t,h.length⟩=I (.v (.bool (!ks (cG N b))),⟨[I (.v (cG N (.go s l f d b))),I (.cell h.length),x2,x3,x4],h++[.lst acc],t,h.length⟩):=wu (VG (aP rfl));rw[VH]at e;have ae:Wp (fun r st=>r= .next∧st=⟨[I (.v (cG N b)),I (.cell h.length),x2,x3,x4],h++[.lst (acc++[.int (N s).p])],t,h.length⟩) (bI C (.cons (.expr (.append (.loc 1) (.item (.attr (.loc 0) 41) (.const (.int 0))))) (.cons (.assign (.loc 0) (.attr (.loc 0) 45)) .nil)) ⟨[I (.v (cG N (.go s l f d b))),I (.cell h.length),x2,x3,x4],h++[.lst acc],t,h.length⟩):=by
    iterate (exact hf)
    exact⟨rfl,rfl⟩
   obtain⟨r,st,ae,rfl,rfl⟩:=ae;refine Iq (tE e) ae rfl ?_;have:=aD (acc++[.int (N s).p]) k (kh ‹_›) (by erw[b4];exact yd ‹_›);erw[this,eR];rfl
theorem VJ{N:Nat→fE}{w:bc}(hw:w.path.length<100):bu bl (n+1) 36 [.v (cG N w)] h t h.length=I (.v (.lst (w.path.map fun s=>.int (N s).p).reverse),h,t):=by
 ac_rfl
 iterate fail
 refine wD (VI w [] 100 hw (Ms ‹_› rfl)) ?_
 iterate ((with_reducible apply pU);(repeat1' fail);exact eo (gV (eY 0)) rfl;exact dO (by rw[nQ,bF];exact qz ‹_› rfl))
 exact nj rfl
end
section
variable{n t:Nat}{h:List Cell}
structure nx(j:Nat)(w:bc):Prop where
 p:(w.path.length:Int)=w.line
 l:w.line≤j
structure p3(j:Nat)(s:dg):Prop where
 kept:∀w,w∈s.kept→nx j w
 best:∀k o,lk k s.best=I o→nx j o.w∧o.ln=o.w.line+1
theorem VK{P:bM}{b j:Nat}{w:bc}{d:Int}{s:dg}(hw:nx j w)(aL:p3 j s):p3 j (put P b w d s):=by
 unfold put;refine Mine.eT (fun h=>?_) (fun h=>?_)
 ·refine⟨aL.kept,fun k o e=>?_⟩
  dsimp only at e
  rw[nc]at e
  split at e
  ·injections e;exact⟨hw,rfl⟩
  ·exact aL.best k o e
 ·exact aL
theorem VL{P:bM}{l:Bool}{m b i j:Nat}{w:bc}{s:dg}(hw:nx j w)(aL:p3 j s):p3 j (turn P l m b i w s):=by
 have aa:p3 j (if P.over b w then s else⟨s.kept++[w],s.best,s.least⟩):=by
  refine Mine.eT (fun h=>?_) (fun h=>?_)
  ·exact aL
  ·refine⟨fun v aJ=>?_,aL.best⟩;refine eF (dR.mp aJ) (fun aJ=>?_) (fun aJ=>?_)
   ·exact aL.kept v aJ
   ·rw[dY]at aJ;subst aJ;exact hw
 unfold turn
 dsimp only
 refine Mine.eT (fun h=>?_) (fun h=>?_)
 ·exact aa
 ·exact VK hw aa
theorem VM{P:bM}{l:Bool}{m b j:Nat}:∀(ws:List bc) (i:Nat) (s:dg),(∀w,w∈ws→nx j w)→p3 j s→p3 j (ih P l m b i ws s):=by
 intro aT
 induction aT with
 |nil=>intro _ _ _ h;exact h
 |cons w ws aD=>intro i s hw h;exact aD (i+1) _ (fun v aJ=>hw v (.tail _ aJ)) (VL (hw w (.head _)) h)
theorem VN{G:gZ}{m b:Nat}:∀(ws:List bc) (i:Nat) (s:dg),(∀w,w∈ws→p2 w)→j9 s→j9 (ih G.par G.last m b i ws s)∧(ih G.par G.last m b i ws s).kept.length≤s.kept.length+ws.length:=by
 intro aT
 induction aT with
 |nil=>intro _ _ _ h;exact⟨h,bE _⟩
 |cons w ws aD=>intro i s hw h;have k:=I7 (G:=G) (b:=b) (i:=i) (m:=m) (hw w (.head _)) h;have:=aD (i+1) _ (fun v aJ=>hw v (.tail _ aJ)) k.k;refine⟨this.1,bR this.2 ?_⟩;erw[gA];exact bR (aaa k.kept _) (eQ (Nat.succ_add_eq_add_succ ..))
structure By(j:Nat)(l:List bc):Prop where
 w:∀w,w∈l→nx j w
 n:l.length≤1+60*j
theorem nx.ln{j:Nat}{w:bc}(h:nx j w)(a':j≤13):p2 w:=⟨h.p▸nL _,cZ h.l (mH a')⟩
theorem Bz{G:gZ}:∀j,j≤14→By j (bK G.par G.last j):=by
 intro eW
 induction eW with
 |zero=>intro _;exact⟨fun w hw=>by erw[dY.mp hw];exact⟨rfl,dZ _⟩,bE _⟩
 |succ j aD=>
  intro a';have aG:=aD (xX a');have ar:=VM (P:=G.par) (l:=G.last) (m:=(bK G.par G.last j).length) (b:=j+1) (j:=j) (bK G.par G.last j) 0 ⟨[],[],[]⟩ aG.w ⟨fun ag h=>(nomatch h),fun ag ag h=>(nomatch h)⟩;refine bC (fun ai aA=>?_) (VN (G:=G) (m:=(bK G.par G.last j).length) (b:=j+1) (bK G.par G.last j) 0 ⟨[],[],[]⟩ (fun w hw=>(aG.w w hw).ln (o6 a')) ⟨.nil,fun ag h=>(nomatch h),fun ag h=>(nomatch h)⟩);show By (j+1) (fin G.par (j+1) (ih G.par G.last (bK G.par G.last j).length (j+1) 0 (bK G.par G.last j) ⟨[],[],[]⟩));generalize ih G.par G.last (bK G.par G.last j).length (j+1) 0 (bK G.par G.last j) ⟨[],[],[]⟩=s at ar ai aA;refine⟨fun w hw=>?_,?_⟩
  ·rcases tv.mp hw with hw|⟨key,o,aa,_,rfl⟩
   ·have:=ar.kept w hw;exact⟨this.p,by have:=this.l;exact Mo ‹_›⟩
   ·refine bC (fun ab aq=>?_) (ar.best key o aa);have a:=ab.p;have b:=ab.l;refine⟨?_,?_⟩
    ·exact(Dp a).trans aq.symm
    ·exact cZ (nR aq) (kn b 1)
  ·exact bR Vs (show _≤(1+60*j)+60 from nJ (bR aA (bR (eQ (nN _)) aG.n)) ai.len)
theorem VO{P:bM}{l:Bool}{i:Nat}(h:bK P l i=[]):∀d,bK P l (i+d)=[]:=by
 intro eW
 induction eW with
 |zero=>exact h
 |succ d aD=>show ly P l _ (bK P l (i+d))=[];erw[aD];rfl
def node(af:List aI)(q:Nat×Int×Int):fE:=⟨q.1,q.2.1,q.2.2,(gY af q.1:Nat),mv af q.1,kN af q.1⟩
def ka:fE:=⟨1000000,0,0,0,da,upd da 0 1000000⟩
noncomputable def nodes(af:List aI)(L:List (Nat×Int×Int)):Nat→fE
 |0=>wN
 |j+1=>match L[j]? with
  |some q=>node af q
  |none=>ka
noncomputable def p4(i:Int):Int:=if 10000<i then 10000 else i
def kb(af:List aI)(S:cj)(s ja:Nat)(z hH x:Int)(last:Bool):gZ:=⟨S,s,ja,z,p4 hH,af.length,eL S x,nodes af (b6 S.hp af),(b6 S.hp af).length,last⟩
noncomputable def ru(N:Nat→fE):Option (List Nat)→V
 |none=>.bB
 |some p=>.lst (p.map fun s=>.int (N s).p).reverse
structure p5(af:List aI)(S:cj)(z hH x:Int):Prop where
 n:af.length≤90
 k:hG af
 it:∀it,it∈af→pZ it
 fQ:Bh S
 ls:oG S.ls
 rs:oG S.rs
 dx:i8 x
 VP:i8 z
 Je:Num hH
 cu:0≤S.cu
 L:(b6 S.hp af).length≤14
 b9:∀q,q∈b6 S.hp af→Num q.2.1
 fit:∀a b,wM z (gj (eL S x) (nodes af (b6 S.hp af) a) (nodes af (b6 S.hp af) b))
inductive VQ(af:List aI)(G:gZ)(cv:Nat)(h:List Cell)(t:Nat)(vs:List V)(st:St):Prop where
 |mk (j:Nat) (x2 x3 x4 x6 cX x10 x11 c5 x13 x14:Option X) (ay:j≤cv) (au:vs=((b6 G.S.hp af).drop j).map (nq af)) (bo:bK G.par G.last j≠[])
  (wU:st=⟨[I (.v (.lst (af.map enc))),I (.cell G.s),x2,x3,x4,I (.v (.bool G.last)),x6,I (.cell h.length),I (.v (.lst ((bK G.par G.last j).map (cG G.N)))),cX,x10,x11,c5,x13,x14],h++[.inst 10 (lD G.s G.z G.most (c9 G.g) G.last (jC G.S))],t,h.length⟩)
theorem VR{Q:bc→Prop}:∀(l:List bc) (b:bc),Q b→(∀w,w∈l→Q w)→Q (bestOf b l):=by
 intro aT
 induction aT with
 |nil=>intro _ ae _;exact ae
 |cons w l aD=>intro b ae h;exact aD (if w.bJ<b.bJ then w else b) (by split;exact h w (.head _);exact ae) fun v aJ=>h v (.tail _ aJ)
theorem VS{Q:bc→Prop}{cP L:Int}:∀(l:List bc) (s:bc×Int),Q s.1→(∀w,w∈l→Q w)→Q (l.foldl (fC cP L) s).1:=by
 intro aT
 induction aT with
 |nil=>intro _ ae _;exact ae
 |cons w l aD=>intro s ae h;exact aD (fC cP L s w) (by unfold fC;split;exact h w (.head _);exact ae) fun v aJ=>h v (.tail _ aJ)
theorem Jf{Q:bc→Prop}{ws:List bc}{L:Int}(aA:ws≠[])(h:∀w,w∈ws→Q w):Q (picked ws L).1:=by
 have ae:Q (bestOf (ws.headD .root) ws):=by
  induction ws using bY with
  |nil=>exact absurd rfl aA
  |cons w r=>exact VR (w::r) w (h w (.head _)) h
 unfold picked
 split
 ·exact ae
 ·exact VS ws _ ae h
theorem eq_nil{st:St}{xs:List V}:st.cmp .eq (.v (.lst xs)) (.v (.lst []))=I xs.isEmpty:=by cases xs<;>rfl
set_option maxHeartbeats 1000000 in
theorem VT{af:List aI}{S:cj}{s:Nat}{z hH x:Int}{last:Bool}(aL:h[s]? =I S.cell)(ok:p5 af S z hH x):
  bu bl (n+5) 37 [.v (.lst (af.map enc)),.cell s,.v (pY z),.v (.int hH),.v (.int x),.v (.bool last)] h t h.length=I (.v (ru (nodes af (b6 S.hp af)) (hF (kb af S s h.length z hH x last).par last S.loose)),h,t):=by
 obtain⟨G,dF⟩:∃G,G=kb af S s h.length z hH x last:=⟨_,rfl⟩
 have Aj:fit (af.map enc).length=true:=dO (by rw[bF];have:=ok.n;exact cz ‹_› rfl)
 ac_rfl
 refine oD (fo (by repeat1' fail) (U1 (n:=n+1) (t:=t) ok.fQ aL)) ?_;refine dT (fo (by repeat1' fail) (U8 (n:=n+1) (t:=t) aL ok.ls ok.rs ok.dx)) ?_;refine dT (A4 (by repeat1' (exact wG ok.Je.1 ok.Je.2)) (U2 aL) rfl) ?_;refine dT (hX (bA (lA (by repeat1' fail) IG rfl rfl) dj) rfl) ?_;show Wp _ (bI _ _ ⟨[I (.v (.lst (af.map enc))),I (.cell s),I (.v (pY z)),I (.v (.int hH)),I (.v (.int x)),I (.v (.bool last)),I (.v (c9 (eL S x))),I (.cell h.length),I (.v (.lst ([bc.root].map (cG (nodes af (b6 S.hp af)))))),J,J,J,J,J,J],h++[.inst 10 (lD s z (p4 hH) (c9 (eL S x)) last (jC S))],t,h.length⟩);have VU:fit ((b6 S.hp af).map (nq af)).length=true:=dO (by rw[bF];have:=ok.L;exact cz ‹_› rfl);refine gW (hk (fo (by repeat1' fail) (Vf (n:=n) (t:=t) (h:=h++[.inst 10 (lD s z (p4 hH) (c9 (eL S x)) last (jC S))]) (e7 aL) ok.n ok.k ok.it)) rfl VU) ?_;have oK:G.S=S:=by rw[dF];rfl
 have gs:G.s=s:=by rw[dF];rfl
 have tQ:G.N=nodes af (b6 S.hp af):=by rw[dF];rfl
 have Jg:G.par.M=(b6 S.hp af).length:=by rw[dF];rfl
 have gl:G.last=last:=by rw[dF];rfl
 have VV:G.len=af.length:=by rw[dF];rfl
 have m1:∀e,h++[.inst 10 (lD G.s G.z G.most (c9 G.g) G.last (jC G.S))]=e→Bp G e:=fun e he=>by
  subst he;refine⟨by rw[gs,oK];exact e7 aL,by rw[dF];exact eY 0,by rw[tQ];rfl,by rw[tQ,dF];exact ok.fit,by rw[oK];exact ok.fQ.cS,fun b=>?_,by rw[oK];exact ok.cu⟩;have h0:Num 0:=⟨by decide,by decide⟩
  rw[tQ]
  induction b using fe with
  |zero=>exact h0
  |succ j=>
   show Num (match(b6 S.hp af)[j]? with|some q=>node af q|none=>ka).b9
   cases aE:(b6 S.hp af)[j]? with
   |none=>exact h0
   |some q=>exact ok.b9 q (fI aE)
 have rv:=m1 _ rfl;refine i7 (VQ af G (b6 S.hp af).length h t) ?_ ?_ _ _ (.mk 0 _ _ _ _ J J J J J J (fx _) (by rw[oK];rfl) (fun h=>nomatch h) (by rw[dF];rfl))
 ·rintro v vs st ⟨j,x2,x3,x4,x6,cX,x10,x11,c5,x13,x14,ay,au,bo,rfl⟩;replace au:=oK▸au;cases aE:(b6 S.hp af)[j]? with
  |none=>
   replace au:=(aan.mpr (xV.mp aE))▸au
   injections au
  |some q=>
  have a':j<(b6 S.hp af).length:=(d7.mp aE).1;have Jh:j≤13:=by have:=ok.L;exact r4 ‹_› ‹_› rfl
  replace au:=((d7.mp aE).2)▸((CP a')▸au);obtain⟨rfl,rfl⟩:=List.cons.inj au;have aB:=Bz (G:=G) j (rM Jh);have hw:=Vz (n:=n+1) (t:=t) (b:=j+1) rv (fun w hw=>(aB.w w hw).ln Jh) (by have:=aB.n;exact cz (bR ‹_› (lR (qy _ ‹_›) _)) rfl);have VW:G.N (j+1)=node af q:=by
   rw[tQ];show(match(b6 S.hp af)[j]? with|some q=>node af q|none=>ka)=_
   rw[aE]
  replace hw:=(show G.ja=h.length by rw[dF];rfl)▸(VV▸(VW▸hw));have hlen:(af.map enc).length=af.length:=bF ..;refine fun Q cQ el=>⟨_,fD,?_⟩
  iterate (first|exact j6 Aj|(rw[hlen];exact hw)|exact eq_nil)
  ·intro aa;have h0:bK G.par G.last (j+1)=[]:=CN.mp (km.mp aa)
   iterate fail
   refine el _ _ rfl (nj ?_);have ic:bK G.par G.last G.par.M=[]:=by have:=VO h0 ((b6 S.hp af).length-(j+1));erw[Jg,←this,L2 a']
   rw[←dF];unfold hF;rw[←gl,ic];rfl
  ·intro aa
   iterate fail
   refine cQ _ _ rfl (.mk (j+1) _ _ _ _ _ _ _ _ _ _ a' (by rw[oK]) (fun h0=>?_) rfl);have aa:((bK G.par G.last (j+1)).map (cG G.N)).isEmpty=false:=aa;replace aa:=h0▸aa
   injections aa
 ·rintro st ⟨j,x2,x3,x4,x6,cX,x10,x11,c5,x13,x14,ay,au,bo,rfl⟩;replace au:=oK▸au;have a':j=(b6 S.hp af).length:=by
   refine eF (CR j (b6 S.hp af).length) (fun c=>?_) (fun c=>?_)
   ·replace au:=(CP c)▸au;injections au
   ·exact rU ay c
  have BA:j≤14:=bR ay ok.L;have aB:=Bz (G:=G) j BA;have hp:=tr (n:=n+3) (t:=t) (N:=G.N) (L:=G.S.loose) (h:=h++[.inst 10 (lD G.s G.z G.most (c9 G.g) G.last (jC G.S))]) bo (cz (bR aB.n (lR (qy 60 BA) 1)) rfl);have hw:nx j (picked (bK G.par G.last j) G.S.loose).1:=Jf bo aB.w;have iD:(picked (bK G.par G.last j) G.S.loose).1.path.length<100:=gI (nK.mp (cZ (nR hw.p) hw.l)) (nT BA rfl);have VX:=VJ (n:=n+3) (t:=t) (N:=G.N) (h:=h++[.inst 10 (lD G.s G.z G.most (c9 G.g) G.last (jC G.S))]) iD;have Ji:hF G.par G.last G.S.loose=if(!U ((picked (bK G.par G.last j) G.S.loose).2=G.S.loose)&& !G.last)=true then J else I (picked (bK G.par G.last j) G.S.loose).1.path:=by
   have he:(bK G.par G.last j).isEmpty=false:=by
    cases aE:bK G.par G.last j with
    |nil=>exact absurd aE bo
    |cons=>rfl
   unfold hF;rw[Jg,←a',he,decide_not];rfl
  rw[←tQ,←dF,←oK,←gl];show Wp _ _
  iterate (first|exact(rv.aL)|exact hp)
  ·intro aa
   iterate fail
   rw[Ji,if_pos aa];exact nj rfl
  ·intro aa
   iterate (exact VX)
   rw[Ji,if_neg (by rw[aa];decide)];exact nj rfl
end
section
variable{n t:Nat}{h:List Cell}
theorem VY{f np ns:Nat}{df:List V}{rc:Bool}{B:bD}{l:List X}{lo:List (Option X)}{Jj:X×List Cell×Nat→Prop}(hm:tG f=I (np,ns,df,rc))(ae:body f=B)(ar:U (l.length≤np∧np≤l.length+df.length)=true)(rm:qK ⟨np,ns,df,rc,.nil⟩ l=lo)(run:Wp (fun r st=>∃o,Out rc h o r st∧Jj o) (bI (bu bl n) B ⟨lo,h,t,h.length⟩)):∃o,bu bl (n+1) f l h t h.length=I o∧Jj o:=by obtain⟨r,st,e,o,q,p⟩:=run;exact⟨o,UG hm ae ar rm ⟨r,st,e,q⟩,p⟩
theorem rv{lo:List (Option X)}{h' e:List Cell}{t':Nat}(ar:h'.length=h.length):l3 h.length h.length ⟨lo,h'++e,t',h.length⟩=true:=by erw[←ar];exact tH
theorem Jk{rc:Bool}{lo:List (Option X)}{h' e:List Cell}{t':Nat}{u:V}(ar:h'.length=h.length):Out rc h (.v u,h',t') (.ret (.v u)) ⟨lo,h'++e,t',h.length⟩:=⟨rv ar,by show I (X.v u,(h'++e).take h.length,t')=_;erw[←ar,rZ]⟩
theorem p6{rc:Bool}{lo:List (Option X)}{h':List Cell}{t':Nat}{u:V}(ar:h'.length=h.length):Out rc h (.v u,h',t') (.ret (.v u)) ⟨lo,h',t',h.length⟩:=by
 have:=Jk (rc:=rc) (lo:=lo) (e:=[]) (t':=t') (u:=u) ar
 rwa [ei]at this
theorem tR{rc:Bool}{lo:List (Option X)}{h' e:List Cell}{t':Nat}(ar:h'.length=h.length):Out rc h (.v .bB,h',t') .next ⟨lo,h'++e,t',h.length⟩:=⟨rv ar,by show I (X.v .bB,(h'++e).take h.length,t')=_;erw[←ar,rZ]⟩
theorem BB{rc:Bool}{lo:List (Option X)}{h':List Cell}{t':Nat}(ar:h'.length=h.length):Out rc h (.v .bB,h',t') .next ⟨lo,h',t',h.length⟩:=by
 have:=tR (rc:=rc) (lo:=lo) (e:=[]) (t':=t') ar
 rwa [ei]at this
structure eg where
 (a c:Int)
noncomputable def eE(p:eg):Cell:=.lst [.int p.a,.int p.c]
noncomputable def tk(p:eg)(k:Int):Int:=bif U (p.a>0)then p.a.fmod k else((7*(p.c+1)*(p.c+1)+5*(p.c+1)+3).fmod 101).fmod k
noncomputable def bQ(p:eg)(k:Int):eg:=bif U (p.a>0)then⟨p.a.fdiv k,p.c⟩else⟨p.a,p.c+1⟩
structure fc(m:Nat)(p:eg):Prop where
 lo:0≤p.c
 aw:p.c+m≤4000000000000000000
theorem fc.bQ{m:Nat}{p:eg}{k:Int}(h:fc (m+1) p):fc m (bQ p k):=by
 have aa:=h.lo;have ab:=h.aw;unfold L.bQ;cases U (p.a>0)
 ·exact⟨by show 0≤p.c+1;lia,by show p.c+1+_≤_;exact Mk ‹_›⟩
 ·exact⟨aa,by show p.c+_≤_;exact yf ‹_›⟩
theorem oL{p:eg}{k:Int}(ai:0<k):0≤tk p k:=by
 unfold tk;cases U (p.a>0)
 ·exact aap _ ai
 ·exact aap _ ai
theorem oM{p:eg}{k:Int}(ai:0<k):tk p k<k:=by
 unfold tk;cases U (p.a>0)
 ·exact Int.fmod_lt_of_pos _ ai
 ·exact Int.fmod_lt_of_pos _ ai
theorem kc{m:Nat}{p:eg}{k:Int}{hh:List Cell}(hp:fc (m+1) p)(ai:0<k)(zZ:k≤1000):bu bl (n+1) 39 [.cell 0,.v (.int k)] (eE p::hh) t (eE p::hh).length=I (.v (.int (tk p k)),eE (bQ p k)::hh,t):=by
 have aa:=hp.lo;have ab:=hp.aw;have fl:small k=true:=j5 (d0 ‹_› rfl) (k0 ‹_› rfl);have sc:(small (7*(p.c+1))||small (p.c+1))=true:=by erw[j5 (a:=p.c+1) (by lia) (by lia),xT]
 ac_rfl
 iterate (exact rfl)
 ·intro aq
  iterate (first|(erw[fl];exact rfl)|exact rfl|lia)
  refine(?_:Out false _ _ (.ret (.v (.int (p.a.fmod k)))) ⟨_,eE ⟨p.a.fdiv k,p.c⟩::hh,t,_⟩);delta tk bQ;erw[aq];exact p6 rfl
 ·intro aq
  iterate (first|exact sc|exact rfl|lia)
  refine(?_:Out false _ _ (.ret (.v (.int (((7*(p.c+1)*(p.c+1)+5*(p.c+1)+3).fmod 101).fmod k)))) ⟨_,eE ⟨p.a,p.c+1⟩::hh,t,_⟩);delta tk bQ;erw[aq];exact p6 rfl
end
local macro_rules | `(tactic| subst_eqs) => pure (Mine.rp "a a @VY a a 1TsymmSaturate s1 2MbyTactic a a 1TsymmSaturate s1 2MbyTactic @rfl a a 1TtacticBv_omega s1 2MbyTactic a a 2MsyntheticHole n5 2Mapp 2Trefine s1 a 3Tparen" [])
section
variable{n t:Nat}{h:List Cell}
noncomputable def pick{α:Type}(d:α)(l:List α)(i:Int):α:=l.getD i.toNat d
theorem VZ{α:Type}{f:α→V}{d:α}{l:List α}{i:Int}(h0:0≤i)(aa:i<l.length)(ab:l.length≤1000):gL (.lst (l.map f)) (.int i)=I (f (pick d l i)):=by
 have aw:i.toNat<l.length:=by exact Dw ‹_› ‹_›
 refine item_at (k:=i.toNat) ?_ (Dn ‹_›) (r4 ‹_› ‹_› rfl);erw[lP,gp aw];unfold pick;erw[je,gp aw];rfl
theorem V0{α:Type}{Q:α→Prop}{d:α}{l:List α}{i:Int}(h:∀x,x∈l→Q x)(h0:0≤i)(aa:i<l.length):Q (pick d l i):=by
 have aw:i.toNat<l.length:=by exact Dw ‹_› ‹_›
 unfold pick;erw[je,gp aw];exact h _ (uu aw)
theorem jE{α:Type}{Q:α→Prop}{d:α}{l:List α}{p:eg}{k:Int}(h:∀x,x∈l→Q x)(ai:0<k)(ar:k=l.length):Q (pick d l (tk p k)):=V0 h (oL ai) (by erw[←ar];exact oM ai)
theorem tS{α:Type}{f:α→V}{d:α}{l:List α}{p:eg}{k:Int}(ai:0<k)(ar:k=l.length)(ab:k≤1000):gL (.lst (l.map f)) (.int (tk p k))=I (f (pick d l (tk p k))):=VZ (oL ai) (by erw[←ar];exact oM ai) (by lia)
structure hI(g:bb):Prop where
 oN:0≤g.w
 ie:g.w≤20
 s0:0≤g.s
 s1:g.s≤20
 o0:0≤g.o
 a0:g.o≤3
 kd:0≤g.k
 dH:g.k≤20
structure tT(S:cj):Prop where
 BC:0≤S.cS
 Jl:S.cS≤100
 wV: -10000≤S.hp
 rx:S.hp≤10000
 V1:0≤S.dV
 V2:S.dV≤3000
 BD:0≤S.cu
 V3:S.cu≤5000
 ls:hI S.ls
 rs:hI S.rs
 lo:S.loose=0
noncomputable def cj.ex(S:cj):cj:=⟨S.cS,S.hp,S.dV,S.cu,0,S.rs,S.ls⟩
theorem BE{C:Calls}{Q:R→St→Prop}{ss:bD}{a b:ao}{fs fs':List (Nat×X)}{m:Nat}{x:X}{s0 s1:St}{lo:List (Option X)}{jz:Cell}{bs:Nat}(aa:aj C a s0=I (x,s1))(ab:aj C b s1=I (.cell 1,⟨lo,[jz,Cell.inst 8 fs],t,bs⟩))(aL:fS m x fs=fs')(aO:(iT 8 m&&((valOf x).isSome||decide (bs≤1)))=true)(av:Wp Q (bI C ss ⟨lo,[jz,Cell.inst 8 fs'],t,bs⟩)):Wp Q (bI C (.cons (.assign (.attr b m) a) ss) s0):=A8 aa ab rfl aO (by show Wp Q (bI C ss ⟨lo,[jz,.inst 8 (fS m x fs)],t,bs⟩);erw[aL];exact av)
theorem Jm{lo:List (Option X)}{h':List Cell}{t':Nat}{S:cj}(ar:h'.length=h.length):Out false h (.cell h.length,h'++[S.cell],t') (.ret (.cell h.length)) ⟨lo,h'++[S.cell],t',h.length⟩:=by refine⟨rv ar,?_⟩;show(if h.length≤h.length then((h'++[S.cell])[h.length]?).bind _ else J)=_;erw[if_pos (bE _),←ar,show(h'++[S.cell])[h'.length]? =_ from tD];show I (X.cell h'.length,(h'++[S.cell]).take h'.length++[S.cell],t')=_;erw[rZ]
theorem p7{α:Type}{f:α→V}{d:α}{l:List α}{a:ao}{p:eg}{m j bs:Nat}{k:Int}{lo:List (Option X)}{hh:List Cell}(aB:aj (bu bl (n+1)) a ⟨lo,eE p::hh,t,bs⟩=I (.v (.lst (l.map f)),⟨lo,eE p::hh,t,bs⟩))(ar:lo[j]? =I (I (.cell 0)))(hp:fc (m+1) p)(h0:0<k∧k≤1000)(ai:k=l.length):
  aj (bu bl (n+1)) (.item a (.call 39 (.cons (.loc j) (.cons (.const (.int k)) .nil)))) ⟨lo,eE p::hh,t,bs⟩=I (.v (f (pick d l (tk p k))),⟨lo,eE (bQ p k)::hh,t,bs⟩):=
 hj aB (fo (bH (aP ar) (bH a9 cV)) (kc hp h0.1 h0.2)) (tS h0.1 ai h0.2)
inductive Jn(m:Nat)(ends:Bool)(t:Nat):X×List Cell×Nat→Prop where
 |mk (p:eg) (S:cj) (hp:fc m p) (fM:tT S) (aB:ends=false→S.cu=0):Jn m ends t (.cell 1,[eE p,S.cell],t)
noncomputable def p8:List bb:=[⟨0,0,0,0⟩,⟨3,2,0,0⟩,⟨0,5,0,1⟩]
noncomputable def p9:List bb:=[⟨0,0,0,0⟩,⟨2,4,0,0⟩,⟨0,9,0,0⟩,⟨1,2,1,0⟩]
theorem V4:∀g,g∈p8→hI g:=by
 intro g aK;simp only[p8,ec,kZ,or_false]at aK
 rcases aK with rfl|rfl|rfl<;>exact⟨by decide,by decide,by decide,by decide,by decide,by decide,by decide,by decide⟩
theorem V5:∀g,g∈p9→hI g:=by
 intro g aK;simp only[p9,ec,kZ,or_false]at aK
 rcases aK with rfl|rfl|rfl|rfl<;>exact⟨by decide,by decide,by decide,by decide,by decide,by decide,by decide,by decide⟩
theorem tU{α:Type}{f:α→V}{d:α}{l:List α}{a:ao}{p:eg}{m at' bs:Nat}{k:Int}{lo:List (Option X)}{fs fs':List (Nat×X)}{Q:R→St→Prop}{ss:bD}(hp:fc (m+1) p)(h0:0<k∧k≤1000)(ai:k=l.length)(aL:fS at' (.v (f (pick d l (tk p k)))) fs=fs')(ar:lo[0]? =I (I (.cell 0)))(ab:lo[2]? =I (I (.cell 1)))(aO:iT 8 at'=true){xs:List V}
  (aB:aj (bu bl (n+1)) a ⟨lo,[eE p,Cell.inst 8 fs],t,bs⟩=I (.v (.lst xs),⟨lo,[eE p,Cell.inst 8 fs],t,bs⟩)) (aC:l.map f=xs)
  (av:Wp Q (bI (bu bl (n+1)) ss ⟨lo,[eE (bQ p k),Cell.inst 8 fs'],t,bs⟩)):Wp Q (bI (bu bl (n+1)) (.cons (.assign (.attr (.loc 2) at') (.item a (.call 39 (.cons (.loc 0) (.cons (.const (.int k)) .nil))))) ss) ⟨lo,[eE p,Cell.inst 8 fs],t,bs⟩):=
 BE (p7 (by erw[aC];exact aB) ar hp h0 ai) (aP ab) aL (by erw[aO];rfl) av
structure V6(m:Nat)(ends:Bool)(p:eg)(ad:Int)(P:Prop):Prop where
 e:P
 p:fc m p
 q:0≤ad∧ad≤5000
 z:ends=false→ad=0
noncomputable abbrev V7:ao:=.k2 (.loc 1) (.item (.lst (.cons (.const (.int 5000)) (.cons (.const (.int 200)) (.cons (.const (.int 0)) .nil)))) (.call 39 (.cons (.loc 0) (.cons (.const (.int 3)) .nil)))) (.const (.int 0))
theorem V8{m bs:Nat}{p:eg}{ends:Bool}{lo:List (Option X)}{c:Cell}(hp:fc (m+1) p)(h0:lo[0]? =I (I (.cell 0)))(aa:lo[1]? =I (I (.v (.bool ends)))):
  ∃dp ad,V6 m ends dp ad (aj (bu bl (n+1)) V7 ⟨lo,[eE p,c],t,bs⟩=I (.v (.int ad),⟨lo,[eE dp,c],t,bs⟩)):=by
 induction ends using hL with
 |false=>exact⟨p,0,jB (aP aa) (fun h=>nomatch h) (fun ag=>a9),⟨hp.lo,by have:=hp.aw;exact yf ‹_›⟩,by decide,fun ag=>rfl⟩
 |true=>refine⟨bQ p 3,pick 0 [5000,200,0] (tk p 3),jB (aP aa) (fun ag=>?_) (fun h=>nomatch h),hp.bQ,jE (α:=Int) (Q:=fun x=>0≤x∧x≤5000) (by decide) (by decide) (by decide),fun h=>nomatch h⟩;exact p7 (d:=0) (l:=[5000,200,0]) (f:=V.int) (k:=3) (hX (bA a9 (bA a9 (bA a9 dj))) rfl) h0 hp (by decide) (by decide)
theorem V9{w s o k:Int}(hw:0≤w∧w≤20)(aL:0≤s∧s≤20)(aO:0≤o∧o≤3)(ai:0≤k∧k≤20)(bw:s=0→o=0):bu bl (n+3) (gC 0) [.cell h.length,.v (.int w),.v (.int s),.v (.int o),.v (.int k),.v (.int 0)] (h++[.inst 0 []]) t h.length=I (.v .bB,h++[.inst 0 (lB (bb.fs ⟨w,s,o,k⟩))],t):=UM ⟨d0 (qq ‹_›) rfl,d3 (qp ‹_›) rfl⟩ ⟨d0 (qq ‹_›) rfl,d3 (qp ‹_›) rfl⟩ aO ⟨d0 (qq ‹_›) rfl,d3 (qp ‹_›) rfl⟩ bw
theorem oO{lo:List (Option X)}{bs:Nat}{st:St}{es:az}{w s o k:Int}(aa:dq (bu bl (n+3)) es st=I ([.v (.int w),.v (.int s),.v (.int o),.v (.int k),.v (.int 0)],⟨lo,h,t,bs⟩))(hw:0≤w∧w≤20)(aL:0≤s∧s≤20)(aO:0≤o∧o≤3)(ai:0≤k∧k≤20)(bw:s=0→o=0):
  aj (bu bl (n+3)) (.new 0 es) st=I (.v (iH ⟨w,s,o,k⟩),⟨lo,h,t,bs⟩):=lA aa (V9 hw aL aO ai bw) rfl rfl
theorem Jo{lo:List (Option X)}{bs:Nat}:aj (bu bl (n+3)) (.new 0 .nil) ⟨lo,h,t,bs⟩=I (.v (iH ⟨0,0,0,0⟩),⟨lo,h,t,bs⟩):=lA cV Iy rfl rfl
theorem tV{C:Calls}{st:St}{w s o k z:Int}:dq C (.cons (.const (.int w)) (.cons (.const (.int s)) (.cons (.const (.int o)) (.cons (.const (.int k)) (.cons (.const (.int z)) .nil))))) st=I ([.v (.int w),.v (.int s),.v (.int o),.v (.int k),.v (.int z)],st):=rfl
theorem V'{lo:List (Option X)}{bs:Nat}{e:az}(he:e= .cons (.new 0 .nil) (.cons (.new 0 (.cons (.const (.int 3)) (.cons (.const (.int 2)) (.cons (.const (.int 0)) (.cons (.const (.int 0)) (.cons (.const (.int 0)) .nil)))))) (.cons (.new 0 (.cons (.const (.int 0)) (.cons (.const (.int 5)) (.cons (.const (.int 0)) (.cons (.const (.int 1)) (.cons (.const (.int 0)) .nil)))))) .nil))):
  aj (bu bl (n+3)) (.lst e) ⟨lo,h,t,bs⟩=I (.v (.lst (p8.map iH)),⟨lo,h,t,bs⟩):=by
 subst he;exact hX (bA Jo (bA (oO tV (by decide) (by decide) (by decide) (by decide) (by decide)) (bA (oO tV (by decide) (by decide) (by decide) (by decide) (by decide)) dj))) rfl
theorem Wa{lo:List (Option X)}{bs:Nat}{e:az}(he:e= .cons (.new 0 .nil) (.cons (.new 0 (.cons (.const (.int 2)) (.cons (.const (.int 4)) (.cons (.const (.int 0)) (.cons (.const (.int 0)) (.cons (.const (.int 0)) .nil)))))) (.cons (.new 0 (.cons (.const (.int 0)) (.cons (.const (.int 9)) (.cons (.const (.int 0)) (.cons (.const (.int 0)) (.cons (.const (.int 0)) .nil)))))) (.cons (.new 0 (.cons (.const (.int 1)) (.cons (.const (.int 2)) (.cons (.const (.int 1)) (.cons (.const (.int 0)) (.cons (.const (.int 0)) .nil)))))) .nil)))):
  aj (bu bl (n+3)) (.lst e) ⟨lo,h,t,bs⟩=I (.v (.lst (p9.map iH)),⟨lo,h,t,bs⟩):=by
 subst he;exact hX (bA Jo (bA (oO tV (by decide) (by decide) (by decide) (by decide) (by decide)) (bA (oO tV (by decide) (by decide) (by decide) (by decide) (by decide)) (bA (oO tV (by decide) (by decide) (by decide) (by decide) (by decide)) dj)))) rfl
set_option maxHeartbeats 1000000 in
theorem Wb{m:Nat}{p:eg}{ends:Bool}(hp:fc (m+6) p):∃o,bu bl (n+5) 40 [.cell 0,.v (.bool ends)] [eE p] t 1=I o∧Jn m ends t o:=by
 subst_eqs
 refine dT (A4 cV IF rfl) ?_;have aa:=hp.bQ (k:=4);have ab:=aa.bQ (k:=6);have aq:=ab.bQ (k:=3);refine tU (d:=0) (l:=[10,0,1,100]) (f:=V.int) (fs:=wI.fs) (fs':=cj.fs ⟨pick 0 [10,0,1,100] (tk p 4),0,0,0,0,⟨0,0,0,0⟩,⟨0,0,0,0⟩⟩) hp (by decide) (by decide) (by exact rfl) (by exact rfl) (by exact rfl) (by decide) (by repeat1' fail) (by exact rfl) ?_;have eu:=jE (α:=Int) (Q:=fun x=>0≤x∧x≤100) (d:=0) (l:=[10,0,1,100]) (p:=p) (k:=4) (by decide) (by decide) (by decide);generalize pick (0:Int) [10,0,1,100] (tk p 4)=cS at eu⊢;refine tU (d:=0) (l:=[50,-30,0,10000,200,-10000]) (f:=V.int) (fs':=fS 32 (.v (.int (pick 0 [50,-30,0,10000,200,-10000] (tk (bQ p 4) 6)))) (cj.fs ⟨cS,0,0,0,0,⟨0,0,0,0⟩,⟨0,0,0,0⟩⟩)) aa (by decide) (by decide) (by exact rfl) (by exact rfl) (by exact rfl) (by decide) (by repeat1' fail) (by exact rfl) ?_;have gc:=jE (α:=Int) (Q:=fun x=> -10000≤x∧x≤10000) (d:=0) (l:=[50,-30,0,10000,200,-10000]) (p:=(bQ p 4)) (k:=6) (by decide) (by decide) (by decide);generalize pick (0:Int) [50,-30,0,10000,200,-10000] (tk (bQ p 4) 6)=aV at gc⊢;generalize bQ (bQ p 4) 6=ck at ab aq⊢;refine BE (fs':=cj.fs ⟨cS,aV,0,0,0,⟨0,0,0,0⟩,⟨0,0,0,0⟩⟩) (by repeat1' (exact rfl)) (aP rfl) (rfl) rfl ?_;refine tU (d:=0) (l:=[0,3000,500]) (f:=V.int) (fs':=cj.fs ⟨cS,aV,pick 0 [0,3000,500] (tk ck 3),0,0,⟨0,0,0,0⟩,⟨0,0,0,0⟩⟩) ab (by decide) (by decide) (by exact rfl) (by exact rfl) (by exact rfl) (by decide) (by repeat1' fail) (by exact rfl) ?_;have hg:=jE (α:=Int) (Q:=fun x=>0≤x∧x≤3000) (d:=0) (l:=[0,3000,500]) (p:=ck) (k:=3) (by decide) (by decide) (by decide);generalize pick (0:Int) [0,3000,500] (tk ck 3)=dV at hg⊢;obtain⟨hM,ad,⟨cg,ba,ry,h3⟩⟩:=V8 (n:=n+3) (t:=t) (c:=cj.cell ⟨cS,aV,dV,0,0,⟨0,0,0,0⟩,⟨0,0,0,0⟩⟩) (bs:=[eE p].length) (lo:=[I (.cell 0),I (.v (.bool ends)),I (.cell 1),J,J,J]) (ends:=ends) aq rfl rfl;refine BE (fs:=cj.fs ⟨cS,aV,dV,0,0,⟨0,0,0,0⟩,⟨0,0,0,0⟩⟩) (fs':=cj.fs ⟨cS,aV,dV,ad,0,⟨0,0,0,0⟩,⟨0,0,0,0⟩⟩) cg (aP (rfl)) (rfl) rfl ?_;have b0:=ba.bQ (k:=3);refine tU (d:=⟨0,0,0,0⟩) (l:=p8) (f:=iH) (fs':=cj.fs ⟨cS,aV,dV,ad,0,pick ⟨0,0,0,0⟩ p8 (tk hM 3),⟨0,0,0,0⟩⟩) ba (by decide) (by decide) (rfl) (rfl) (rfl) (by decide) (V' rfl) rfl ?_;have Jp:=jE (α:=bb) (Q:=hI) (d:=⟨0,0,0,0⟩) (l:=p8) (p:=hM) (k:=3) V4 (by decide) (by decide);generalize pick (⟨0,0,0,0⟩:bb) p8 (tk hM 3)=ls at Jp⊢;refine tU (d:=⟨0,0,0,0⟩) (l:=p9) (f:=iH) (fs':=cj.fs ⟨cS,aV,dV,ad,0,ls,pick ⟨0,0,0,0⟩ p9 (tk (bQ hM 3) 4)⟩) b0 (by decide) (by decide) (rfl) (rfl) (rfl) (by decide) (Wa rfl) rfl ?_;have Jq:=jE (α:=bb) (Q:=hI) (d:=⟨0,0,0,0⟩) (l:=p9) (p:=(bQ hM 3)) (k:=4) V5 (by decide) (by decide);generalize pick (⟨0,0,0,0⟩:bb) p9 (tk (bQ hM 3) 4)=rs at Jq⊢;refine hY (aP rfl) ⟨_,Jm (h':=[eE (bQ (bQ hM 3) 4)]) rfl,.mk _ _ (b0.bQ (k:=4)) ⟨eu.1,eu.2,gc.1,gc.2,hg.1,hg.2,ry.1,ry.2,Jp,Jq,rfl⟩ h3⟩
end
section
variable{n t:Nat}{h:List Cell}
theorem p'{C:Calls}{ts:dI}{b:ao}{m c bs:Nat}{lo:List (Option X)}{x:X}{l:List X}{fs fs':List (Nat×X)}{st2:St}(ab:aj C b ⟨lo,h++[.inst c fs],t,bs⟩=I (.cell h.length,⟨lo,h++[.inst c fs],t,bs⟩))(aL:fS m x fs=fs')(aO:(iT c m&&((valOf x).isSome||decide (bs≤h.length)))=true)(av:gb C ts l ⟨lo,h++[.inst c fs'],t,bs⟩=I st2):
  gb C (.cons (.attr b m) ts) (x::l) ⟨lo,h++[.inst c fs],t,bs⟩=I st2:=
 Bb ab (eY 0) aO (by have e:(h++[Cell.inst c fs]).set h.length (.inst c (fS m x fs))=h++[.inst c (fS m x fs)]:=ni 0 _;erw[e,aL];exact av)
theorem Wc{S:cj}{s:Nat}(aL:h[s]? =I S.cell):bu bl (n+5) 41 [.cell s] h t h.length=I (.cell h.length,h++[S.ex.cell],t):=by
 ac_rfl
 refine dT (A4 cV IF rfl) ?_;have ra:=e7 (e:=[wI.cell]) aL;refine hl (by repeat1' (exact ra)) (p' (aP rfl) (fs:=wI.fs) (fs':=cj.fs ⟨S.cS,0,0,0,0,⟨0,0,0,0⟩,⟨0,0,0,0⟩⟩) rfl rfl (p' (aP rfl) (fs':=cj.fs ⟨S.cS,0,0,S.cu,0,⟨0,0,0,0⟩,⟨0,0,0,0⟩⟩) rfl rfl (p' (aP rfl) (fs':=cj.fs ⟨S.cS,0,S.dV,S.cu,0,⟨0,0,0,0⟩,⟨0,0,0,0⟩⟩) rfl rfl rl))) ?_;have ra:=e7 (e:=[cj.cell ⟨S.cS,0,S.dV,S.cu,0,⟨0,0,0,0⟩,⟨0,0,0,0⟩⟩]) aL;refine hl (by repeat1' (exact ra)) (p' (aP rfl) (fs:=cj.fs ⟨S.cS,0,S.dV,S.cu,0,⟨0,0,0,0⟩,⟨0,0,0,0⟩⟩) (fs':=fS 32 (.v (.int S.hp)) (cj.fs ⟨S.cS,0,S.dV,S.cu,0,⟨0,0,0,0⟩,⟨0,0,0,0⟩⟩)) rfl rfl (p' (aP rfl) (fs':=cj.fs ⟨S.cS,S.hp,S.dV,S.cu,0,⟨0,0,0,0⟩,⟨0,0,0,0⟩⟩) rfl rfl rl)) ?_;refine hl (by repeat1' (exact(e7 (e:=[cj.cell ⟨S.cS,S.hp,S.dV,S.cu,0,⟨0,0,0,0⟩,⟨0,0,0,0⟩⟩]) aL))) (p' (aP rfl) (fs:=cj.fs ⟨S.cS,S.hp,S.dV,S.cu,0,⟨0,0,0,0⟩,⟨0,0,0,0⟩⟩) (fs':=cj.fs ⟨S.cS,S.hp,S.dV,S.cu,0,S.rs,⟨0,0,0,0⟩⟩) rfl rfl (p' (aP rfl) (fs':=S.ex.fs) rfl rfl rl)) ?_;exact hY (aP rfl) (Jm rfl)
section
variable{lo:List (Option X)}{bs:Nat}{st:St}{es:az}
theorem wW{w:Int}(aa:dq (bu bl (n+3)) es st=I ([.v (.int 2),.v (.int w),.v (.int 0),.v (.int 0),.v (.lst [])],⟨lo,h,t,bs⟩))(hw:i8 w):aj (bu bl (n+3)) (.new 1 es) st=I (.v (enc (.box t w)),⟨lo,h,t+1,bs⟩):=lA aa (UN hw) rfl rfl
theorem Wd{w s:Int}(aa:dq (bu bl (n+3)) es st=I ([.v (.int w),.v (.int s)],⟨lo,h,t,bs⟩))(hw:i8 w)(aL:0≤s∧s≤3):aj (bu bl (n+3)) (.new 2 es) st=I (.v (enc (.gX t w s)),⟨lo,h,t+1,bs⟩):=lA aa (UO hw aL) rfl rfl
theorem BF{g:bb}(aa:dq (bu bl (n+2)) es st=I ([.v (iH g),.v (.int 0)],⟨lo,h,t,bs⟩)):aj (bu bl (n+2)) (.new 3 es) st=I (.v (enc (.skip t g)),⟨lo,h,t+1,bs⟩):=lA aa UP rfl rfl
theorem BG{v:Int}(aa:dq (bu bl (n+3)) es st=I ([.v (.int v)],⟨lo,h,t,bs⟩))(aJ: -2147483647≤v∧v≤2147483647):aj (bu bl (n+3)) (.new 4 es) st=I (.v (enc (.b9 t v)),⟨lo,h,t+1,bs⟩):=lA aa (UQ aJ) rfl rfl
theorem Jr{a b m:i9}(aa:dq (bu bl (n+2)) es st=I ([.v (.lst (a.map fv)),.v (.lst (b.map fv)),.v (.lst (m.map fv))],⟨lo,h,t,bs⟩))(aB:a.length≤1000)(ae:b.length≤1000)(hm:m.length≤1000):aj (bu bl (n+2)) (.new 5 es) st=I (.v (enc (.cf t a b m)),⟨lo,h,t+1,bs⟩):=lA aa (UT (nk aB) (nk ae) (nk hm)) rfl rfl
theorem We(aa:dq (bu bl (n+3)) es st=I ([.v (.lst [])],⟨lo,h,t,bs⟩)):aj (bu bl (n+3)) (.new 6 es) st=I (.v (enc (.mark t)),⟨lo,h,t+1,bs⟩):=lA aa UR rfl rfl
end
noncomputable def b7(g:bb):V:=.tup [.int g.w,.int g.s,.int g.o,.int g.k]
structure jF(g:bb):Prop where
 b:hI g
 k:g.k≤g.w
inductive my:List bb→List aI→Prop where
 |nil:my [] []
 |one (t t':Nat) (g:bb) (aK:jF g):my [g] [.b9 t 10000,.skip t' g]
inductive Js(i:Int)(h:List Cell):X×List Cell×Nat→Prop where
 |mk (gs:List bb) (af:List aI) (t':Nat) (aO:my gs af) (aw:i=1→gs=[⟨0,6,1,0⟩]):Js i h (.v (.tup [.lst (gs.map b7),.lst (af.map enc)]),h,t')
theorem Jt{i:Int}:∃o,bu bl (n+4) 42 [.v (.int i)] h t h.length=I o∧Js i h o:=by
 subst_eqs
 iterate fail
 ·intro aa
  iterate fail
  exact⟨_,dN rfl,.mk [] [] t .nil fun ab=>by replace aa:=ab▸aa;cases aa⟩
 ·intro aa;cases ab:U (i=1)with
  |true=>have ab:=of_decide_eq_true ab;subst ab;refine dT (x:=.v (b7 ⟨0,6,1,0⟩)) (jB (p:=U ((1:Int)=1)) (mn (aP rfl) a9) (fun ag=>by repeat1' (exact rfl)) (fun h=>absurd h (by decide))) ?_;refine hY (eX (bA (hX (bA (aP rfl) dj) rfl) (bA (hX (bA (BG (by repeat1' fail) (by decide)) (bA (BF (bH (oO (w:=0) (s:=6) (o:=1) (k:=0) (by repeat1' (exact rfl)) (by decide) (by decide) (by decide) (by decide) (by decide)) (bH a9 cV))) dj)) rfl) dj)) rfl) ?_;exact⟨_,p6 rfl,.mk [⟨0,6,1,0⟩] [.b9 t 10000,.skip (t+1) ⟨0,6,1,0⟩] (t+1+1) (.one t (t+1) ⟨0,6,1,0⟩ ⟨⟨by decide,by decide,by decide,by decide,by decide,by decide,by decide,by decide⟩,by decide⟩) fun ag=>rfl⟩
  |false=>refine dT (x:=.v (b7 ⟨2,9,0,1⟩)) (jB (p:=false) (by erw[←ab];exact mn (aP rfl) a9) (fun h=>nomatch h) (fun ag=>by repeat1' (exact rfl))) ?_;refine hY (eX (bA (hX (bA (aP rfl) dj) rfl) (bA (hX (bA (BG (by repeat1' fail) (by decide)) (bA (BF (bH (oO (w:=2) (s:=9) (o:=0) (k:=1) (by repeat1' (exact rfl)) (by decide) (by decide) (by decide) (by decide) (by decide)) (bH a9 cV))) dj)) rfl) dj)) rfl) ?_;exact⟨_,p6 rfl,.mk [⟨2,9,0,1⟩] [.b9 t 10000,.skip (t+1) ⟨2,9,0,1⟩] (t+1+1) (.one t (t+1) ⟨2,9,0,1⟩ ⟨⟨by decide,by decide,by decide,by decide,by decide,by decide,by decide,by decide⟩,by decide⟩) fun aq=>by replace ab:=aq▸ab;cases ab⟩
end
section
variable{n t:Nat}{h:List Cell}
structure Tl where
 (z most x:Int)
 (eI ay:List bb)
noncomputable def dk(T:Tl):List (Nat×X):=[(54,.cell 2),(55,.cell 3),(56,.cell 4),(27,.cell 5),(57,.v (.tup [.lst (T.eI.map b7),.lst (T.ay.map b7)])),(58,.v (.int T.z)),(46,.cell 1),(48,.v (.int T.most)),(59,.v (.int T.x)),(49,.cell 7)]
noncomputable abbrev av(p:eg)(c:Cell)(nd ws gs rs:List V)(d:List (Nat×X))(g:List V)(e:List Cell):List Cell:=eE p::c:: .lst nd:: .lst ws:: .lst gs:: .lst rs:: .e9 d:: .lst g::e
theorem iK{C:Calls}{Q:R→St→Prop}{ss:bD}{a b:ao}{s0 s1:St}{lo:List (Option X)}{bs m:Nat}{hh hh':List Cell}{xs aS:List V}{v:V}(aa:aj C a s0=I (.cell m,s1))(ar:s1.lst m=I aS)(ab:aj C b s1=I (.v v,⟨lo,hh,t,bs⟩))(hm:hh[m]? =I (.lst xs))(hf:fit xs.length=true)(he:hh.set m (.lst (xs++[v]))=hh')(av:Wp Q (bI C ss ⟨lo,hh',t,bs⟩)):Wp Q (bI C (.cons (.expr (.append a b)) ss) s0):=oD (A5 aa ar ab (gV hm) hf) (by erw[he];exact av)
theorem Ju{C:Calls}{Q:R→St→Prop}{ss:bD}{a b:ao}{s0 s1:St}{lo:List (Option X)}{bs m:Nat}{hh hh':List Cell}{xs aS vs:List V}(aa:aj C a s0=I (.cell m,s1))(ar:s1.lst m=I aS)(ab:aj C b s1=I (.v (.lst vs),⟨lo,hh,t,bs⟩))(hm:hh[m]? =I (.lst xs))(hf:fit (xs++vs).length=true)(he:hh.set m (.lst (xs++vs))=hh')(av:Wp Q (bI C ss ⟨lo,hh',t,bs⟩)):Wp Q (bI C (.cons (.expr (.extend a b)) ss) s0):=oD (Up aa ar ab (gV hm) hf) (by erw[he];exact av)
inductive kO:List aI→Int→Prop where
 |box (t:Nat) (w:Int) (h0:8≤w) (aa:w≤25):kO [.box t w] w
 |gX (t t' sU:Nat) (w k s:Int) (h0:8≤w) (aa:w≤25) (kd: -4≤k) (dH:k≤2):kO [.box t w,.gX t' k s,.box sU 6] (w+(k+6))
 |mark (t t':Nat) (w:Int) (h0:8≤w) (aa:w≤25):kO [.box t w,.mark t'] w
inductive Jv(m:Nat)(c:Cell)(nd ws gs rs:List V)(d:List (Nat×X))(g:List V):X×List Cell×Nat→Prop where
 |mk (p:eg) (af:List aI) (w:Int) (t':Nat) (hp:fc m p) (hw:kO af w):Jv m c nd ws gs rs d g (.v .bB,av p c (nd++af.map enc) (ws++[.int w]) gs rs d g [],t')
theorem fc.mono{m:Nat}{p:eg}(h:fc (m+1) p):fc m p:=⟨h.lo,by have:=h.aw;exact yf ‹_›⟩
theorem Jw{m:Nat}{p:eg}{c:Cell}{nd ws gs rs:List V}{T:Tl}{g:List V}(hp:fc (m+4) p)(aA:nd.length≤1000)(hw:ws.length≤1000):
  ∃o,bu bl (n+4) 43 [.cell 0,.cell 6] (av p c nd ws gs rs (dk T) g []) t (av p c nd ws gs rs (dk T) g []).length=I o∧Jv m c nd ws gs rs (dk T) g o:=by
 subst_eqs
 have aa:=hp.bQ (k:=18);have ab:=aa.bQ (k:=5);have t1:∀{l:List Cell},_:=fun{l}=>kc (n:=n+2) (t:=t) (hh:=l) hp (k:=18) (by decide) (by decide);have e1:∀{l:List Cell},_:=fun{l}=>kc (n:=n+2) (t:=t) (hh:=l) aa (k:=5) (by decide) (by decide);have a1:=oL (p:=p) (k:=18) (by decide);have a2:=oM (p:=p) (k:=18) (by decide);have fn:fit nd.length=true:=dO (cz ‹_› rfl);have Wf:∀v:V,fit (nd++[v]).length=true:=fun v=>dO (by erw[b4];exact nT ‹_› rfl);have Wg:∀u v w:V,fit ((nd++[u])++[v,w]).length=true:=fun u v w=>dO (by erw[b4,b4];show _+1+2≤_;lia);have BH:fit ws.length=true:=dO (cz ‹_› rfl);refine hl (by repeat1' (first|exact t1|exact e1)) (by iterate fail) ?_
 generalize tk p 18=fj at a1 a2⊢;generalize bQ (bQ p 18) 5=ck at ab⊢;generalize tk (bQ p 18) 5=vd;refine iK (hh':=av ck c (nd++[enc (.box t (8+fj))]) ws gs rs (dk T) g []) (by repeat1' (exact rfl)) rfl (wW (by repeat1' fail) ⟨by lia,by lia⟩) rfl fn rfl ?_
 iterate fail
 ·intro _;have aq:=ab.bQ (k:=2);have t3:∀{l:List Cell},_:=fun{l}=>kc (n:=n+2) (t:=t+1) (hh:=l) ab (k:=2) (by decide) (by decide);have lX:∀{l:List Cell},_:=fun{l}=>kc (n:=n+2) (t:=t+1) (hh:=l) aq (k:=2) (by decide) (by decide);have Wh:=tS (f:=V.int) (l:=[2,-4]) (d:=0) (p:=ck) (k:=2) (by decide) rfl (by decide);have tW:=jE (α:=Int) (Q:=fun x=> -4≤x∧x≤2) (d:=0) (l:=[2,-4]) (p:=ck) (k:=2) (by decide) (by decide) (by decide);have g4:=oL (p:=bQ ck 2) (k:=2) (by decide);have jj:=oM (p:=bQ ck 2) (k:=2) (by decide);have ba:=aq.bQ (k:=2);refine hl (by repeat1' (first|exact t3|exact lX|exact Wh)) (by iterate fail) ?_
  generalize pick 0 [2,-4] (tk ck 2)=k at tW⊢;generalize tk (bQ ck 2) 2=s at g4 jj⊢;generalize bQ (bQ ck 2) 2=hM at ba⊢;refine Ju (hh':=av hM c ((nd++[enc (.box t (8+fj))])++[enc (.gX (t+1) k s),enc (.box (t+1+1) 6)]) ws gs rs (dk T) g []) (by repeat1' (exact rfl)) rfl (hX (bA (Wd (by repeat1' fail) ⟨by have:=tW.1;exact d0 ‹_› rfl,by have:=tW.2;exact d3 ‹_› rfl⟩ ⟨g4,C9 ‹_› rfl⟩) (bA (wW (by repeat1' fail) ⟨by decide,by decide⟩) dj)) rfl) rfl (Wg _ _ _) rfl ?_
  iterate fail
  refine iK (hh':=av hM c ((nd++[enc (.box t (8+fj))])++[enc (.gX (t+1) k s),enc (.box (t+1+1) 6)]) (ws++[.int (8+fj+(k+6))]) gs rs (dk T) g []) (by repeat1' (exact rfl)) rfl (by repeat1' fail) rfl BH rfl ?_;refine gh ⟨_,BB rfl,?_⟩;erw[eR];exact .mk hM [.box t (8+fj),.gX (t+1) k s,.box (t+1+1) 6] _ _ ba (.gX _ _ _ _ _ _ (by lia) (by lia) tW.1 tW.2)
 ·intro _
  iterate fail
  ·intro _;refine iK (hh':=av ck c ((nd++[enc (.box t (8+fj))])++[enc (.mark (t+1))]) ws gs rs (dk T) g []) (by repeat1' (exact rfl)) rfl (We (by repeat1' fail)) rfl (Wf _) rfl ?_;refine iK (hh':=av ck c ((nd++[enc (.box t (8+fj))])++[enc (.mark (t+1))]) (ws++[.int (8+fj)]) gs rs (dk T) g []) (by repeat1' (exact rfl)) rfl (by repeat1' fail) rfl BH rfl ?_;refine gh ⟨_,BB rfl,?_⟩;erw[eR];exact .mk ck [.box t (8+fj),.mark (t+1)] _ _ ab.mono.mono (.mark _ _ _ (by lia) (by lia))
  ·intro _;refine iK (hh':=av ck c (nd++[enc (.box t (8+fj))]) (ws++[.int (8+fj)]) gs rs (dk T) g []) (by repeat1' (exact rfl)) rfl (by repeat1' fail) rfl BH rfl ?_;exact gh ⟨_,BB rfl,.mk ck [.box t (8+fj)] _ _ ab.mono.mono (.box _ _ (by lia) (by lia))⟩
end
section
variable{n t:Nat}{h:List Cell}
inductive Jx(m:Nat)(c:Cell)(nd ws gs rs:List V)(d:List (Nat×X))(g:List V)(e:List Cell):X×List Cell×Nat→Prop where
 |mk (p:eg) (x:bb) (t0 t':Nat) (hp:fc m p) (aC:jF x):Jx m c nd ws gs rs d g e (.v (b7 x),av p c (nd++[enc (.skip t0 x)]) ws gs rs d g e,t')
theorem Wi{m:Nat}{p:eg}{c:Cell}{nd ws gs rs:List V}{T:Tl}{g:List V}{e:List Cell}(hp:fc (m+4) p)(aA:nd.length≤1000):
  ∃o,bu bl (n+4) 44 [.cell 0,.cell 6] (av p c nd ws gs rs (dk T) g e) t (av p c nd ws gs rs (dk T) g e).length=I o∧Jx m c nd ws gs rs (dk T) g e o:=by
 subst_eqs
 have aa:=hp.bQ (k:=4);have ab:=aa.bQ (k:=6);have aq:=ab.bQ (k:=9);have ba:=aq.bQ (k:=4);have t1:∀{l:List Cell},_:=fun{l}=>kc (n:=n+2) (t:=t) (hh:=l) hp (k:=4) (by decide) (by decide);have e1:∀{l:List Cell},_:=fun{l}=>kc (n:=n+2) (t:=t) (hh:=l) aa (k:=6) (by decide) (by decide);have t3:∀{l:List Cell},_:=fun{l}=>kc (n:=n+2) (t:=t) (hh:=l) ab (k:=9) (by decide) (by decide);have lX:∀{l:List Cell},_:=fun{l}=>kc (n:=n+2) (t:=t) (hh:=l) aq (k:=4) (by decide) (by decide);have a1:=oL (p:=p) (k:=4) (by decide);have a2:=oM (p:=p) (k:=4) (by decide);have g4:=oL (p:=bQ p 4) (k:=6) (by decide);have jj:=oM (p:=bQ p 4) (k:=6) (by decide);have ef:=oL (p:=bQ (bQ (bQ p 4) 6) 9) (k:=4) (by decide);have e6:=oM (p:=bQ (bQ (bQ p 4) 6) 9) (k:=4) (by decide);have io:=tS (f:=V.int) (l:=[0,0,0,0,0,0,1,2,3]) (d:=0) (p:=bQ (bQ p 4) 6) (k:=9) (by decide) rfl (by decide);have wX:=jE (α:=Int) (Q:=fun x=>0≤x∧x≤3) (d:=0) (l:=[0,0,0,0,0,0,1,2,3]) (p:=bQ (bQ p 4) 6) (k:=9) (by decide) (by decide) (by decide);have fn:=dO (cz ‹_› rfl);refine dT (eX (vs:=[.int (4+tk p 4),.int (1+tk (bQ p 4) 6),.int (pick 0 [0,0,0,0,0,0,1,2,3] (tk (bQ (bQ p 4) 6) 9)),.int (tk (bQ (bQ (bQ p 4) 6) 9) 4)]) (by repeat1' (first|exact t1|exact e1|exact t3|exact lX|exact io)) rfl) ?_
 generalize tk p 4=c2 at a1 a2⊢;generalize tk (bQ p 4) 6=x2 at g4 jj⊢;generalize pick (0:Int) [0,0,0,0,0,0,1,2,3] (tk (bQ (bQ p 4) 6) 9)=x3 at wX⊢;generalize tk (bQ (bQ (bQ p 4) 6) 9) 4=x4 at ef e6⊢;generalize bQ (bQ (bQ (bQ p 4) 6) 9) 4=hM at ba⊢;refine iK (hh':=av hM c (nd++[enc (.skip t ⟨4+c2,1+x2,x3,x4⟩)]) ws gs rs (dk T) g e) (by repeat1' (exact rfl)) rfl (BF (bH (oO (w:=4+c2) (s:=1+x2) (o:=x3) (k:=x4) (by repeat1' (exact rfl)) ⟨by lia,by lia⟩ ⟨by lia,by lia⟩ wX ⟨d0 ‹_› rfl,C9 ‹_› rfl⟩ (by intro h;lia)) (bH a9 cV))) rfl fn rfl ?_;exact hY (aP rfl) ⟨_,p6 rfl,.mk hM ⟨4+c2,1+x2,x3,x4⟩ t _ ba ⟨⟨by show 0≤4+c2;lia,by show 4+c2≤20;lia,by show 0≤1+x2;lia,by show 1+x2≤20;lia,wX.1,wX.2,ef,by show x4≤20;lia⟩,by show x4≤4+c2;lia⟩⟩
structure ny(x:i9):Prop where
 n:x.length≤2
 b:∀q,q∈x→0≤q.2∧q.2≤6
 s0:0≤dU x
 s1:dU x≤6
inductive BI(m:Nat)(hh:List Cell):X×List Cell×Nat→Prop where
 |mk (p:eg) (x:i9) (t':Nat) (hp:fc m p) (aC:ny x):BI m hh (.v (.tup [.int (dU x),.lst (x.map fv)]),eE p::hh,t')
theorem BJ{m:Nat}{p:eg}{hh:List Cell}(hp:fc (m+1) p):∃o,bu bl (n+4) 45 [.cell 0] (eE p::hh) t (eE p::hh).length=I o∧BI m hh o:=by
 subst_eqs
 have aa:=hp.bQ (k:=4);have t1:=kc (n:=n+2) (t:=t) (hh:=hh) hp (k:=4) (by decide) (by decide);have cY:=tS (f:=V.int) (l:=[0,3,2,6]) (d:=0) (p:=p) (k:=4) (by decide) rfl (by decide);have eu:=jE (α:=Int) (Q:=fun x=>x=0∨(2≤x∧x≤6)) (d:=0) (l:=[0,3,2,6]) (p:=p) (k:=4) (by decide) (by decide) (by decide);refine dT (x:=.v (.int (pick 0 [0,3,2,6] (tk p 4)))) (by repeat1' (first|exact t1|exact cY)) ?_
 generalize pick (0:Int) [0,3,2,6] (tk p 4)=x at eu⊢;generalize bQ p 4=cL at aa⊢;have ah:∀{C:Calls} {lo:List (Option X)} {hh:List Cell} {t bs:Nat} {b:Bool},U (x>0)=b→lo[1]? =I (I (.v (.int x)))→aj C (.cmp (.loc 1) .gt (.const (.int 0))) ⟨lo,hh,t,bs⟩=I (.v (.bool b),⟨lo,hh,t,bs⟩):=fun ae h=>by erw[←ae];exact pT (aP h) a9
 rcases eu with rfl|⟨eu,gc⟩
 ·refine hY (eX (bA (aP rfl) (bA (A7 (hk (eX (vs:=[.int 1,.int (0-1)]) (by repeat1' fail) rfl) rfl rfl) (wB fD (ah rfl rfl) (wB fD (ah rfl rfl) rfl))) dj)) rfl) ?_;exact⟨_,p6 rfl,.mk cL [] t aa ⟨by decide,fun ag h=>(nomatch h),by decide,by decide⟩⟩
 ·have Jy:U (x>0)=true:=decide_eq_true (jO ‹_›);refine hY (eX (bA (aP rfl) (bA (A7 (hk (eX (vs:=[.int 1,.int (x-1)]) (by repeat1' fail) rfl) rfl rfl) (wA fD (ah Jy rfl) (wW (w:=1) (by repeat1' fail) ⟨by decide,by decide⟩) (wA fD (ah Jy rfl) (wW (w:=x-1) (by repeat1' fail) ⟨by lia,Dc ‹_› rfl⟩) rfl))) dj)) rfl) ?_;have aL:dU [(t,1),(t+1,x-1)]=x:=by show 1+(x-1+0)=x;lia
  have:=BI.mk (m:=m) (hh:=hh) cL [(t,1),(t+1,x-1)] (t+1+1) aa ⟨bE 2,fun q aE=>?_,by erw[aL];exact d0 ‹_› rfl,by erw[aL];exact d3 ‹_› rfl⟩
  ·rw[aL]at this;exact⟨_,p6 rfl,this⟩
  ·simp only[ec,kZ,or_false]at aE
   rcases aE with rfl|rfl
   ·exact(⟨by decide,by decide⟩:(0:Int)≤1∧(1:Int)≤6)
   ·exact⟨by show 0≤x-1;lia,by show x-1≤6;exact Dc ‹_› rfl⟩
end
section
variable{n t:Nat}{h:List Cell}
structure Row where
 (g first last gs ge:Nat)
 b9:Int
 cf:Bool
 (pre post:Int)
noncomputable def eM(r:Row):V:=.tup [.int r.g,.int r.first,.int r.last,.int r.b9,.bool r.cf,.int r.pre,.int r.post]
noncomputable def lE(x:Nat×bb):aI:=.skip x.1 x.2
noncomputable def jG(x:Nat×Int):aI:=.b9 x.1 x.2
noncomputable def jH(gi gs len:Nat):Nat→List (Nat×Int)→List Row
 |_,[]=>[]
 |k,x::r=>one (U (x.2<10000)) ⟨gi,k,k,gs,gs+len,x.2,false,0,0⟩++jH gi gs len (k+1) r
noncomputable def ip(gi:Nat):Nat→List (Nat×Int)→List V
 |_,[]=>[]
 |k,x::r=>one (U (x.2<10000)) (.tup [.int gi,.int k,.int k,.int x.2,.bool false,.int 0,.int 0])++ip gi (k+1) r
theorem Jz{gi gs len k:Nat}{x:Nat×Int}{r:List (Nat×Int)}:jH gi gs len k (x::r)=one (U (x.2<10000)) ⟨gi,k,k,gs,gs+len,x.2,false,0,0⟩++jH gi gs len (k+1) r:=rfl
theorem JA{gi k:Nat}{x:Nat×Int}{r:List (Nat×Int)}:ip gi k (x::r)=one (U (x.2<10000)) (.tup [.int gi,.int k,.int k,.int x.2,.bool false,.int 0,.int 0])++ip gi (k+1) r:=rfl
theorem tX{α β:Type}{f:α→β}{b:Bool}{x:α}:(one b x).map f=one b (f x):=by cases b<;>rfl
theorem Wj{gi gs len:Nat}:∀(l:List (Nat×Int)) (k:Nat),(jH gi gs len k l).map eM=ip gi k l:=by
 intro aT
 induction aT with
 |nil=>intro _;exact rfl
 |cons x r aD=>intro k;erw[Jz,JA];erw[fy,tX,aD];rfl
theorem Wk{gi:Nat}{x:Nat×Int}:∀(l:List (Nat×Int)) (k:Nat),ip gi k (l++[x])=ip gi k l++one (U (x.2<10000)) (.tup [.int gi,.int (k+l.length:Nat),.int (k+l.length:Nat),.int x.2,.bool false,.int 0,.int 0]):=by
 intro aT
 induction aT with
 |nil=>intro k;exact ei _
 |cons y r aD=>intro k;show one _ _++ip gi (k+1) (r++[x])=(one _ _++ip gi (k+1) r)++_;erw[aD (k+1),eR,show k+1+r.length=k+(y::r).length by erw[gA];exact iP _ _ _]
theorem Wl{gi:Nat}:∀(l:List (Nat×Int)) (k:Nat),(ip gi k l).length≤l.length:=by
 intro aT
 induction aT with
 |nil=>intro _;exact bE _
 |cons x r aD=>
  intro k;erw[JA];erw[b4,gA];have:=aD (k+1);have:(one (U (x.2<10000)) (V.tup [.int gi,.int k,.int k,.int x.2,.bool false,.int 0,.int 0])).length≤1:=wJ
  lia
structure BK(x:Nat×Int):Prop where
 lo: -12000≤x.2
 aw:x.2≤10000
inductive jI(hp:Int)(gi p:Nat):List aI→List bb→List Row→Prop where
 |glue (l:List (Nat×bb)) (aA:l≠[]) (ar:l.length≤2) (aK:∀x,x∈l→jF x.2):jI hp gi p (l.map lE) (l.map (·.2)) [⟨gi,p,p+l.length-1,p,p+l.length,0,false,0,0⟩]
 |jJ (l:List (Nat×Int)) (aA:l≠[]) (ar:l.length≤2) (aJ:∀x,x∈l→BK x):jI hp gi p (l.map jG) [] (jH gi p l.length p l)
 |cf (t:Nat) (a b m:i9) (aB:ny a) (ae:ny b) (hm:ny m):jI hp gi p [.cf t a b m] [⟨dU m,0,0,0⟩] (one (U (hp<10000)) ⟨gi,p,p,p,p+1,hp,true,dU a,dU b⟩)
inductive BL(m:Nat)(S:cj)(nd ws gs rs:List V)(d:List (Nat×X))(g:List V):X×List Cell×Nat→Prop where
 |mk (p:eg) (af:List aI) (eN:List bb) (rws:List Row) (t':Nat) (hp:fc m p) (aO:jI S.hp gs.length nd.length af eN rws):BL m S nd ws gs rs d g (.v .bB,av p S.cell (nd++af.map enc) ws (gs++[.lst (eN.map b7)]) (rs++rws.map eM) d g [],t')
theorem wY{C:Calls}{Q:R→St→Prop}{ss:bD}{a b:ao}{s0 s1:St}{lo:List (Option X)}{bs m k:Nat}{hh hh':List Cell}{xs aS vs:List V}(aa:aj C a s0=I (.cell m,s1))(ar:s1.lst m=I aS)(ab:aj C b s1=I (.cell k,⟨lo,hh,t,bs⟩))(ai:hh[k]? =I (.lst vs))(ae:bs≤k)(hm:(hh.set k .gone)[m]? =I (.lst xs))(hf:fit xs.length=true)(he:(hh.set k .gone).set m (.lst (xs++[.lst vs]))=hh')(av:Wp Q (bI C ss ⟨lo,hh',t,bs⟩)):Wp Q (bI C (.cons (.expr (.append a b)) ss) s0):=by subst he;have au:(⟨lo,hh,t,bs⟩:St).freeze (.cell k)=I (.lst vs,⟨lo,hh.set k .gone,t,bs⟩):=bz (gV ai) (if_pos ae);have bo:(⟨lo,hh.set k .gone,t,bs⟩:St).lst m=I xs:=gV hm;refine oD (x:=.v .bB) (st1:=⟨lo,(hh.set k .gone).set m (.lst (xs++[V.lst vs])),t,bs⟩) (bG aa (bz rfl (bz ar (bG ab (bG au (bz bo (if_pos hf))))))) av
theorem oP{st:St}{m:Nat}{xs:List V}(hm:st.lst m=I xs)(hf:fit xs.length=true):hP .len st [.cell m]=I (.v (.int xs.length),st):=bz (bz (eo hm rfl) rfl) (eo (bz rfl (bz rfl (if_pos hf))) rfl)
theorem JB{st:St}{b:Bool}:hP .int st [.v (.bool b)]=I (.v (.int (if b then 1 else 0)),st):=rfl
noncomputable def il(b:Bool):List V:=bif b then[.int 0,.int 1]else[.int 0]
structure Wm(k:Nat)(b:Bool)(v:V)(vs:List V):Prop where
 v:v= .int k
 vs:vs=(il b).drop (k+1)
 k:k<2
theorem JC{b:Bool}{k:Nat}{v:V}{vs:List V}(h:v::vs=(il b).drop k):Wm k b v vs:=by
 match b,k,h with
 |true,0,h=>cases h;exact⟨rfl,rfl,by decide⟩
 |true,1,h=>cases h;exact⟨rfl,rfl,by decide⟩
 |true,k+2,h=>cases k<;>cases h
 |false,0,h=>cases h;exact⟨rfl,rfl,by decide⟩
 |false,k+1,h=>cases k<;>cases h
theorem JD{b:Bool}{k:Nat}(h:[]=(il b).drop k)(ai:k≤2):k≠0:=by rintro rfl;cases b<;>cases h
theorem JE{C:Calls}{st:St}{a:ao}{b:Bool}(aa:aj C a st=I (.v (.bool b),st)):fi C (.range (.bin .add (.const (.int 1)) (.bi .int (.cons a .nil)))) st=I (.v .bB,il b,st):=by
 have ab:aj C (.bin .add (.const (.int 1)) (.bi .int (.cons a .nil))) st=I (.v (.int (1+if b then 1 else 0)),st):=nf a9 (fY (bH aa cV) JB);cases b
 ·exact wz ab rfl
 ·exact wz ab rfl
inductive Wn(b:Bool)(S:cj)(nd ws gs rs:List V)(d:List (Nat×X))(g:List V)(fj:Int)(m:Nat)(vs:List V)(st:St):Prop where
 |mk (p:eg) (l:List (Nat×bb)) (t:Nat) (x7 cW cX x10 x11 c5 x13 x14:Option X) (aa:vs=(il b).drop l.length) (ab:l.length≤2) (aq:∀x,x∈l→jF x.2) (ba:fc (m+4*(2-l.length)) p)
  (b0:st=⟨[I (.cell 0),I (.cell 6),I (.cell 1),I (.v (.int fj)),I (.v (.int nd.length)),I (.v (.int gs.length)),I (.cell 8),x7,cW,cX,x10,x11,c5,x13,x14],av p S.cell (nd++(l.map lE).map enc) ws gs rs d g [.lst ((l.map (·.2)).map b7)],t,8⟩)
inductive BM(b:Bool)(S:cj)(nd ws gs rs:List V)(d:List (Nat×X))(g:List V)(fj:Int)(m:Nat)(vs:List V)(st:St):Prop where
 |mk (p:eg) (l:List (Nat×Int)) (t:Nat) (x7 cW cX x10 x11 c5 x13 x14:Option X) (aa:vs=(il b).drop l.length) (ab:l.length≤2) (aq:∀x,x∈l→BK x) (ba:fc (m+(2-l.length)) p)
  (b0:st=⟨[I (.cell 0),I (.cell 6),I (.cell 1),I (.v (.int fj)),I (.v (.int nd.length)),I (.v (.int gs.length)),I (.cell 8),x7,cW,cX,x10,x11,c5,x13,x14],av p S.cell (nd++(l.map jG).map enc) ws gs (rs++ip gs.length nd.length l) d g [.lst []],t,8⟩)
theorem fc.le{m k:Nat}{p:eg}(h:fc m p)(ai:k≤m):fc k p:=⟨h.lo,by have:=h.aw;exact Ml ‹_› ‹_›⟩
set_option maxHeartbeats 1000000 in
theorem Wo{m:Nat}{p:eg}{S:cj}{nd ws gs rs:List V}{T:Tl}{g:List V}(hp:fc (m+9) p)(aA:nd.length≤990)(aK:gs.length≤990)(abh:rs.length≤1000):
  ∃o,bu bl (n+5) 46 [.cell 0,.cell 6,.cell 1] (av p S.cell nd ws gs rs (dk T) g []) t (av p S.cell nd ws gs rs (dk T) g []).length=I o∧BL m S nd ws gs rs (dk T) g o:=by
 subst_eqs
 have aa:=hp.bQ (k:=8);have t1:∀{l:List Cell},_:=fun{l}=>kc (n:=n+3) (t:=t) (hh:=l) hp (k:=8) (by decide) (by decide);have fn:fit nd.length=true:=dO (by exact cz ‹_› rfl);have fz:fit gs.length=true:=dO (by exact cz ‹_› rfl);have fr:fit rs.length=true:=dO (by exact cz ‹_› rfl);refine hl (l:=[.v (.int (tk p 8)),.v (.int nd.length),.v (.int gs.length),.cell 8]) (st1:=⟨_,av (bQ p 8) S.cell nd ws gs rs (dk T) g [.lst []],t,8⟩) (bH (fo (by repeat1' fail) t1) (bH (fY (by repeat1' (exact rfl)) (oP rfl fn)) (bH (fY (by repeat1' (exact rfl)) (oP rfl fz)) (bH (ng dj rfl) cV)))) (by iterate fail) ?_;generalize tk p 8=fj;generalize bQ p 8=cL at aa⊢
 iterate fail
 ·intro _;refine gW (JE (by repeat1' fail)) ?_;generalize U (fj=3)=b;refine i7 (Wn b S nd ws gs rs (dk T) g fj m) ?_ ?_ _ _ (.mk cL [] t J J J J J J J J rfl (by decide) (fun ag h=>(nomatch h)) aa (by rw[xU,xU,ei];rfl))
  ·rintro v vs st ⟨p,l,t,x7,cW,cX,x10,x11,c5,x13,x14,ay,au,bo,cg,rfl⟩;obtain⟨rfl,rfl,ai⟩:=JC ay;refine fun Q cQ el=>⟨_,fD,?_⟩;refine eA fun cF=>?_;obtain⟨o,aO,g1⟩:=Wi (n:=n) (m:=m+4*(2-(l.length+1))) (p:=p) (c:=S.cell) (nd:=nd++(l.map lE).map enc) (ws:=ws) (gs:=gs) (rs:=rs) (T:=T) (g:=g) (e:=[.lst ((l.map (·.2)).map b7)]) (t:=t) (by erw[show m+4*(2-(l.length+1))+4=m+4*(2-l.length)by exact Mx ‹_›];exact cg) (by simp only[b4,bF];exact kp ‹_› ‹_› rfl);obtain⟨dp,x,t0,t',tY,aC⟩:=g1;refine cF ?_;refine iK (hh':=av dp S.cell ((nd++(l.map lE).map enc)++[enc (.skip t0 x)]) ws gs rs (dk T) g [.lst ((l.map (·.2)).map b7++[b7 x])]) (aP rfl) rfl (fo (by repeat1' fail) aO) rfl (dO (by simp only[bF];exact cz ‹_› rfl)) rfl ?_;refine gh (cQ _ _ rfl (.mk dp (l++[(t0,x)]) t' (I (.v (.int l.length))) cW cX x10 x11 c5 x13 x14 (by erw[b4];rfl) (by erw[b4];exact ai) (fun y aV=>?_) (by erw[b4];exact tY) ?_))
   ·refine eF (dR.mp aV) (fun aV=>?_) (fun aV=>?_)
    ·exact bo y aV
    ·erw[dY.mp aV];exact aC
   ·simp only[fy,eR];rfl
  ·rintro st ⟨p,l,t,x7,cW,cX,x10,x11,c5,x13,x14,ay,au,bo,cg,rfl⟩;have vA:=JD ay au;have hT:fit ((l.map (·.2)).map b7).length=true:=dO (by simp only[bF];exact cz ‹_› rfl);show Wp _ _;refine iK (hh':=av p S.cell (nd++(l.map lE).map enc) ws gs (rs++[eM ⟨gs.length,nd.length,nd.length+l.length-1,nd.length,nd.length+l.length,0,false,0,0⟩]) (dk T) g [.lst ((l.map (·.2)).map b7)]) (by repeat1' (exact rfl)) rfl (eX (vs:=[.int gs.length,.int nd.length,.int ((nd.length:Int)+((l.map (·.2)).map b7).length-1),.int 0,.bool false,.int 0,.int 0]) (by repeat1' (exact oP rfl hT)) rfl) rfl fr ?_ ?_
   ·have:(nd.length:Int)+((l.map (·.2)).map b7).length-1=((nd.length+l.length-1:Nat):Int):=by simp only[bF];exact MB ‹_›
    erw[this];rfl
   refine wY (hh':=av p S.cell (nd++(l.map lE).map enc) ws (gs++[.lst ((l.map (·.2)).map b7)]) (rs++[eM ⟨gs.length,nd.length,nd.length+l.length-1,nd.length,nd.length+l.length,0,false,0,0⟩]) (dk T) g [.gone]) (by repeat1' (exact rfl)) rfl (aP rfl) rfl (by decide) rfl fz rfl ?_;refine gh ⟨_,tR (h':=av p S.cell (nd++(l.map lE).map enc) ws (gs++[.lst ((l.map (·.2)).map b7)]) (rs++[eM ⟨gs.length,nd.length,nd.length+l.length-1,nd.length,nd.length+l.length,0,false,0,0⟩]) (dk T) g []) (e:=[.gone]) rfl,?_⟩;exact .mk p _ _ _ _ (cg.le (by exact f6 _ _)) (.glue l (fun h=>vA (by erw[h];rfl)) au bo)
 ·intro _
  iterate fail
  ·intro _;have ae:∃b,aj (bu bl (n+4)) (.and (.cmp (.loc 3) .eq (.const (.int 5))) (.cmp (.bi .len (.cons (.item (.loc 1) (.const (.str 27))) .nil)) .le (.loc 5))) ⟨[I (.cell 0),I (.cell 6),I (.cell 1),I (.v (.int fj)),I (.v (.int nd.length)),I (.v (.int gs.length)),I (.cell 8),J,J,J,J,J,J,J,J],av cL S.cell nd ws gs rs (dk T) g [.lst []],t,8⟩=I (.v (.bool b),⟨[I (.cell 0),I (.cell 6),I (.cell 1),I (.v (.int fj)),I (.v (.int nd.length)),I (.v (.int gs.length)),I (.cell 8),J,J,J,J,J,J,J,J],av cL S.cell nd ws gs rs (dk T) g [.lst []],t,8⟩):=⟨_,by repeat1' (first|exact oP rfl fr|exact rfl)⟩
   obtain⟨b,ae⟩:=ae;refine gW (JE ae) ?_;refine i7 (BM b S nd ws gs rs (dk T) g fj m) ?_ ?_ _ _ (.mk cL [] t J J J J J J J J rfl (by decide) (fun ag h=>(nomatch h)) (aa.le (by show m+2≤_;lia)) (by rw[xU,xU,ei];delta ip;rw[ei];rfl))
   ·rintro v vs st ⟨p,l,t,x7,cW,cX,x10,x11,c5,x13,x14,ay,au,bo,cg,rfl⟩;obtain⟨rfl,rfl,ai⟩:=JC ay;have cg:fc (m+(2-(l.length+1))+1) p:=cg.le (by exact My ‹_›);have e1:∀{l:List Cell},_:=fun{l}=>kc (n:=n+3) (t:=t) (hh:=l) cg (k:=9) (by decide) (by decide);have Wq:=tS (f:=V.int) (l:=[50,-50,10000,120,-300,9999,-10000,0,-12000]) (d:=0) (p:=p) (k:=9) (by decide) rfl (by decide);have BN:=jE (α:=Int) (Q:=fun x=> -12000≤x∧x≤10000) (d:=0) (l:=[50,-50,10000,120,-300,9999,-10000,0,-12000]) (p:=p) (k:=9) (by decide) (by decide) (by decide);have b0:=cg.bQ (k:=9);refine fun Q cQ el=>⟨_,fD,?_⟩;refine dT (x:=.v (.int (pick 0 [50,-50,10000,120,-300,9999,-10000,0,-12000] (tk p 9)))) (by repeat1' (first|exact e1|exact Wq)) ?_
    generalize pick (0:Int) [50,-50,10000,120,-300,9999,-10000,0,-12000] (tk p 9)=v at BN⊢;generalize bQ p 9=ck at b0⊢;have zV:fit (rs++ip gs.length nd.length l).length=true:=dO (by have:=Wl (gi:=gs.length) l nd.length;erw[b4];lia);refine iK (hh':=av ck S.cell ((nd++(l.map jG).map enc)++[enc (.b9 t v)]) ws gs (rs++ip gs.length nd.length l) (dk T) g [.lst []]) (by repeat1' (exact rfl)) rfl (BG (by repeat1' fail) ⟨by exact d0 (qq ‹_›) rfl,by exact d3 (qp ‹_›) rfl⟩) rfl (dO (by simp only[b4,bF];exact kp ‹_› ‹_› rfl)) rfl ?_;have JF:∀new:List V,new=one (U (v<10000)) (.tup [.int gs.length,.int (nd.length+l.length:Nat),.int (nd.length+l.length:Nat),.int v,.bool false,.int 0,.int 0])→∀cW cX x10 x11 c5 x13 x14,BM b S nd ws gs rs (dk T) g fj m ((il b).drop (l.length+1)) ⟨[I (.cell 0),I (.cell 6),I (.cell 1),I (.v (.int fj)),I (.v (.int nd.length)),I (.v (.int gs.length)),I (.cell 8),I (.v (.int l.length)),cW,cX,x10,x11,c5,x13,x14],av ck S.cell ((nd++(l.map jG).map enc)++[enc (.b9 t v)]) ws gs ((rs++ip gs.length nd.length l)++new) (dk T) g [.lst []],t+1,8⟩:=fun new aA cW cX x10 x11 c5 x13 x14=>by
     refine BM.mk ck (l++[(t,v)]) (t+1) (I (.v (.int l.length))) cW cX x10 x11 c5 x13 x14 (by erw[b4];rfl) (by erw[b4];exact ai) (fun y aV=>?_) (by erw[b4];exact b0) ?_
     ·refine eF (dR.mp aV) (fun aV=>?_) (fun aV=>?_)
      ·exact bo y aV
      ·erw[dY.mp aV];exact⟨BN.1,BN.2⟩
     ·erw[aA,Wk];simp only[fy,eR];rfl
    iterate fail
    ·intro d2;refine iK (hh':=av ck S.cell ((nd++(l.map jG).map enc)++[enc (.b9 t v)]) ws gs ((rs++ip gs.length nd.length l)++[.tup [.int gs.length,.int ((nd.length:Int)+l.length),.int ((nd.length:Int)+l.length),.int v,.bool false,.int 0,.int 0]]) (dk T) g [.lst []]) (by repeat1' (exact rfl)) rfl (by repeat1' (exact rfl)) rfl zV rfl ?_;exact gh (cQ _ _ rfl (JF _ (by erw[d2];rfl) _ _ _ _ _ _ _))
    ·intro d2;refine gh (cQ _ _ rfl (?_));have:=JF [] (by erw[d2];rfl);rw[ei]at this;exact this _ _ _ _ _ _ _
   ·rintro st ⟨p,l,t,x7,cW,cX,x10,x11,c5,x13,x14,ay,au,bo,cg,rfl⟩;show Wp _ _;refine wY (hh':=av p S.cell (nd++(l.map jG).map enc) ws (gs++[.lst []]) (rs++ip gs.length nd.length l) (dk T) g [.gone]) (by repeat1' (exact rfl)) rfl (aP rfl) rfl (by decide) rfl fz rfl ?_;refine gh ⟨_,tR (h':=av p S.cell (nd++(l.map jG).map enc) ws (gs++[.lst []]) (rs++ip gs.length nd.length l) (dk T) g []) (e:=[.gone]) rfl,?_⟩;erw[←Wj (gs:=nd.length) (len:=l.length)];exact .mk p _ _ _ _ (cg.le (by exact f6 _ _)) (.jJ l (fun h=>(JD ay au) (by erw[h];rfl)) au bo)
  ·intro _;refine eA fun cF=>?_;obtain⟨a0,ie,g1⟩:=BJ (n:=n) (m:=m+7) (p:=cL) (t:=t) (hh:=[S.cell,.lst nd,.lst ws,.lst gs,.lst rs,.e9 (dk T),.lst g,.lst []]) aa;obtain⟨eu,a,t1,Wr,aB⟩:=g1;obtain⟨cK,oz,g2⟩:=BJ (n:=n) (m:=m+6) (p:=eu) (t:=t1) (hh:=[S.cell,.lst nd,.lst ws,.lst gs,.lst rs,.e9 (dk T),.lst g,.lst []]) Wr;obtain⟨gc,b,e1,Ws,ae⟩:=g2;obtain⟨gd,Wt,g3⟩:=BJ (n:=n) (m:=m+5) (p:=gc) (t:=e1) (hh:=[S.cell,.lst nd,.lst ws,.lst gs,.lst rs,.e9 (dk T),.lst g,.lst []]) Ws;obtain⟨hg,fG,t3,oj,hm⟩:=g3;refine cF ?_;refine hl (l:=[.v (.tup [.int (dU a),.lst (a.map fv)]),.v (.tup [.int (dU b),.lst (b.map fv)]),.v (.tup [.int (dU fG),.lst (fG.map fv)])]) (st1:=⟨_,av hg S.cell nd ws gs rs (dk T) g [.lst []],t3,8⟩) (bH (fo (by repeat1' fail) ie) (bH (fo (by repeat1' fail) oz) (bH (fo (by repeat1' fail) Wt) cV))) (by iterate fail) ?_;refine iK (hh':=av hg S.cell (nd++[enc (.cf t3 a b fG)]) ws gs rs (dk T) g [.lst []]) (by repeat1' (exact rfl)) rfl (Jr (by repeat1' (exact rfl)) (by have:=aB.n;exact cz ‹_› rfl) (by have:=ae.n;exact cz ‹_› rfl) (by have:=hm.n;exact cz ‹_› rfl)) rfl fn rfl ?_;refine iK (hh':=av hg S.cell (nd++[enc (.cf t3 a b fG)]) ws gs rs (dk T) g [.lst [b7 ⟨dU fG,0,0,0⟩]]) (by repeat1' (exact rfl)) rfl (by repeat1' (exact rfl)) rfl rfl rfl ?_
   iterate (exact rfl)
   ·intro ab;refine iK (hh':=av hg S.cell (nd++[enc (.cf t3 a b fG)]) ws gs (rs++[eM ⟨gs.length,nd.length,nd.length,nd.length,nd.length+1,S.hp,true,dU a,dU b⟩]) (dk T) g [.lst [b7 ⟨dU fG,0,0,0⟩]]) (by repeat1' (exact rfl)) rfl (by repeat1' (exact rfl)) rfl fr rfl ?_;refine wY (hh':=av hg S.cell (nd++[enc (.cf t3 a b fG)]) ws (gs++[.lst [b7 ⟨dU fG,0,0,0⟩]]) (rs++[eM ⟨gs.length,nd.length,nd.length,nd.length,nd.length+1,S.hp,true,dU a,dU b⟩]) (dk T) g [.gone]) (by repeat1' (exact rfl)) rfl (aP rfl) rfl (by decide) rfl fz rfl ?_;refine gh ⟨_,tR (h':=av hg S.cell (nd++[enc (.cf t3 a b fG)]) ws (gs++[.lst [b7 ⟨dU fG,0,0,0⟩]]) (rs++[eM ⟨gs.length,nd.length,nd.length,nd.length,nd.length+1,S.hp,true,dU a,dU b⟩]) (dk T) g []) (e:=[.gone]) rfl,?_⟩;have:=jI.cf (hp:=S.hp) (gi:=gs.length) (p:=nd.length) t3 a b fG aB ae hm;rw[show U (S.hp<10000)=true from ab]at this;exact .mk hg _ _ _ _ (oj.le (by exact f6 _ _)) this
   ·intro ab;refine wY (hh':=av hg S.cell (nd++[enc (.cf t3 a b fG)]) ws (gs++[.lst [b7 ⟨dU fG,0,0,0⟩]]) rs (dk T) g [.gone]) (by repeat1' (exact rfl)) rfl (aP rfl) rfl (by decide) rfl fz rfl ?_;refine gh ⟨_,tR (h':=av hg S.cell (nd++[enc (.cf t3 a b fG)]) ws (gs++[.lst [b7 ⟨dU fG,0,0,0⟩]]) rs (dk T) g []) (e:=[.gone]) rfl,?_⟩;have:=jI.cf (hp:=S.hp) (gi:=gs.length) (p:=nd.length) t3 a b fG aB ae hm;rw[show U (S.hp<10000)=false from ab]at this;have:=BL.mk (nd:=nd) (ws:=ws) (gs:=gs) (rs:=rs) (d:=dk T) (g:=g) hg _ _ _ (t3+1) (oj.le (show m≤m+5 by exact f6 _ _)) this;rw[show rs++(one false _).map eM=rs from ei _]at this;exact this
end
section
variable{n t:Nat}{h:List Cell}
theorem Wu{q:Int}(h0:0≤q):(q^3).fdiv 262144+(if U (2*(q^3).fmod 262144≥262144)then 1 else 0)=(q*q*q+131072).fdiv 262144:=by
 have e:q^3=q*q*q:=by erw[show(3:Nat)=2+1 from rfl,L3,show(2:Nat)=1+1 from rfl,L3,L3,Int.pow_zero,Int.one_mul]
 erw[e];generalize q*q*q=c;erw[r0 _ (by decide),r0 _ (by decide),aao _ (by decide)];refine bZ (fun h:2*(c%262144)≥262144=>?_) (fun h=>?_)
 ·erw[decide_eq_true h,if_pos rfl];lia
 ·erw[decide_eq_false h,if_neg (by decide)];lia
theorem Wv{e w:Int}(he:0≤e)(hw: -1000000000<w)(wZ:w<1000000000):bu bl (n+1) 47 [.v (.int e),.v (.int w)] h t h.length=I (.v (.int (eJ e w)),h,t):=by
 ac_rfl
 iterate fail
 ·intro aa
  iterate fail
  exact dN (by unfold eJ;erw[aa];rfl)
 intro aa;cases ab:U (w≤0)with
 |true=>
  refine dT (x:=.v (.int 1291)) (jB (p:=true) (by erw[←ab];exact A0 (aP rfl) a9) (fun ag=>a9) (fun h=>nomatch h)) ?_
  iterate fail
  exact dN (by unfold eJ;erw[aa,ab];rfl)
 |false=>
  have Iw:=of_decide_eq_false ab;have a5:small w=true:=j5 (d0 ‹_› rfl) (d3 ‹_› rfl);refine dT (x:=.v (.int ((e*297).fdiv w))) (jB (p:=false) (by erw[←ab];exact A0 (aP rfl) a9) (fun h=>nomatch h) (fun ag=>by erw[Int.mul_comm];exact Ij (oC a9 (aP rfl) rfl) (aP rfl) (by erw[a5];lia))) ?_;have kK:0≤(e*297).fdiv w:=by erw[r0 _ (by lia)];exact CZ (by lia) (by lia)
  iterate fail
  ·intro aq
   iterate fail
   exact dN (by unfold eJ;erw[aa,ab,aq];rfl)
  ·intro aq;have eu:=of_decide_eq_false aq;have hp:∀{C:Calls} {st:St},st.loc[2]? =I (I (.v (.int ((e*297).fdiv w))))→aj C (.bin .pow (.loc 2) (.const (.int 3))) st=I (.v (.int (((e*297).fdiv w)^3)),st):=fun ar=>j4 (aP ar) a9 rfl rfl (if_pos ⟨by decide,by decide,d0 ‹_› rfl,C' ‹_› rfl⟩);refine wC (vs:=[.int ((((e*297).fdiv w)^3).fdiv 262144),.int ((((e*297).fdiv w)^3).fmod 262144)]) (fY (bH (hp rfl) (bH (j4 a9 a9 rfl rfl (r:=.int 262144) rfl) cV)) rfl) (by dsimp only[List.map];iterate fail) ?_;refine hY (nf (aP rfl) (fY (bH (rh (oC a9 (aP rfl) rfl) (j4 a9 a9 rfl rfl (r:=.int 262144) rfl)) cV) JB)) ?_;exact dN (by unfold eJ;erw[aa,ab,aq,Wu kK];rfl)
theorem set_same{α:Type}:∀{l:List α} {m:Nat} {x:α},l[m]? =I x→l.set m x=l:=by
 intro l
 induction l with
 |nil=>intro _ _ _;rfl
 |cons y r aD=>
  intro m x h
  induction m using fe with
  |zero=>injections h;rfl
  |succ m=>exact congrArg (y:: ·) (aD (m:=m) h)
theorem BO{C:Calls}{st:St}{a elt:ao}{aF:cJ}{m:Nat}{vs aS:List V}{lo dX:List (Option X)}{bs:Nat}{test:St→Option (Bool×St)}{E:ao}(hS:aj C E st=(fi C (.of a) st).bind fun p=>aY (fh aF test (fun st=>gN (aj C elt st)) p.2.1 (g9 aF p.2.2)) fun aS st1=>uX p.2.2 p.1 p.2.1 aS st1)
  (aa:aj C a st=I (.cell m,⟨lo,h,t,bs⟩)) (hm:h[m]? =I (.lst vs)) (hf:fit vs.length=true) (ab:fh aF test (fun st=>gN (aj C elt st)) vs (g9 aF ⟨lo,h.set m .gone,t,bs⟩)=I (aS,⟨dX,h.set m .gone,t,bs⟩)):aj C E st=I (.v (.lst aS),⟨lo,h,t,bs⟩):=by
 erw[hS];refine bz (Us aa (gV hm) hf) (bG ab ?_);have ae:(⟨dX,h.set m .gone,t,bs⟩:St).back (.cell m) vs=I ⟨dX,h,t,bs⟩:=by refine eo (bz (get_set hm) rfl) ?_;show(⟨dX,(h.set m .gone).set m (.lst vs),t,bs⟩:St)=_;erw[L0,set_same hm]
 exact(if_pos rfl).trans (eo ae rfl)
theorem Ww{C:Calls}{k i bs:Nat}{sel:bb→Int}(aL:∀g,gL (b7 g) (.int i)=I (.int (sel g))):∀(l:List bb) (lo:List (Option X)),k<lo.length→∃dX,fh (.one k) (fun st=>I (true,st)) (fun st=>gN (aj C (.item (.loc k) (.const (.int i))) st)) (l.map b7) ⟨lo,h,t,bs⟩=I ((l.map sel).map .int,⟨dX,h,t,bs⟩):=by
 intro aT
 induction aT with
 |nil=>intro lo _;exact⟨lo,rfl⟩
 |cons g r aD=>intro lo ai;obtain⟨dX,e⟩:=aD (lo.set k (I (.v (b7 g)))) (by erw[kl];exact ai);exact⟨dX,rj fD (hj (aP (by erw[xW ai])) a9 (aL g)) e⟩
theorem Wx{C:Calls}{k i bs:Nat}{sel:bb→Int}{c:ao}{p:bb→Bool}(aL:∀g,gL (b7 g) (.int i)=I (.int (sel g)))(ah:∀g lo,lo[k]? =I (I (.v (b7 g)))→aj C c ⟨lo,h,t,bs⟩=I (.v (.bool (p g)),⟨lo,h,t,bs⟩)):∀(l:List bb) (lo:List (Option X)),k<lo.length→∃dX,fh (.one k) (fun st=>hO (aj C c st)) (fun st=>gN (aj C (.item (.loc k) (.const (.int i))) st)) (l.map b7) ⟨lo,h,t,bs⟩=I (((l.filter p).map sel).map .int,⟨dX,h,t,bs⟩):=by
 intro aT
 induction aT with
 |nil=>intro lo _;exact⟨lo,rfl⟩
 |cons g r aD=>
  intro lo ai;obtain⟨dX,e⟩:=aD (lo.set k (I (.v (b7 g)))) (by erw[kl];exact ai);have aK:(lo.set k (I (X.v (b7 g))))[k]? =I (I (.v (b7 g))):=by erw[xW ai]
  have aa:=ah g _ aK;cases hp:p g with
  |true=>replace aa:=hp▸aa;refine⟨dX,?_⟩;erw[xY,hp];exact wA fD aa (hj (aP aK) a9 (aL g)) e
  |false=>replace aa:=hp▸aa;refine⟨dX,?_⟩;erw[xY,hp];exact wB fD aa e
theorem sum_ints:∀l:List Int,pg (l.map .int)=I l.sum:=by
 intro aT
 induction aT with
 |nil=>exact rfl
 |cons i r aD=>show(pg (r.map .int)).map (i+ ·)=_;erw[aD];rfl
theorem vo{st:St}{l:List Int}:hP .sum st [.v (.lst (l.map .int))]=I (.v (.int l.sum),st):=by have e:∀xs:List V,hP .sum st [.v (.lst xs)]=((pg xs).map V.int).map fun r=>(X.v r,st):=fun ag=>rfl;rw[e,sum_ints];rfl
end
section
variable{n t:Nat}{h:List Cell}
structure bX where
 T:Tl
 S:cj
 ws:List Int
 gs:List (List bb)
 rs:List Row
 gr:List bb
 en:Nat
noncomputable def lF(l:List bb):V:=.lst (l.map b7)
noncomputable def rz(D:bX):List (Nat×X):=dk D.T++[(60,.v (.int D.en))]
structure oQ(D:bX)(h:List Cell):Prop where
 fQ:h[1]? =I D.S.cell
 ws:h[3]? =I (.lst (D.ws.map .int))
 gs:h[4]? =I (.lst (D.gs.map lF))
 rs:h[5]? =I (.lst (D.rs.map eM))
 ke:h[6]? =I (.e9 (rz D))
 gr:h[7]? =I (.lst (D.gr.map b7))
structure iL(D:bX):Prop where
 w:D.ws.length=D.gs.length+1
 oz:D.ws.length≤5
 r:∀r,r∈D.rs→r.g<D.gs.length
 b3:D.rs.length≤13
 g:∀l,l∈D.gs→l.length≤2
 a4:∀l,l∈D.gs→∀g,g∈l→jF g
 dh:∀w,w∈D.ws→8≤w∧w≤40
 pr:∀r,r∈D.rs→(0≤r.pre∧r.pre≤6)∧(0≤r.post∧r.post≤6)
 eI:∀g,g∈D.T.eI→jF g
 ay:∀g,g∈D.T.ay→jF g
 aT:D.T.eI.length≤1
 aM:D.T.ay.length≤1
 gr:∀g,g∈D.gr→hI g
 qa:D.gr.length≤3
noncomputable def f3(w:Int):bb:=⟨w,0,0,0⟩
noncomputable def bX.lo(D:bX)(a:Option Nat):Nat:=(a.bind (D.rs[·]?)).elim 0 (·.g+1)
noncomputable def bX.aw(D:bX)(b:Nat):Nat:=(D.rs[b]?).elim (D.ws.length-1) (·.g)
noncomputable def bX.kP(D:bX)(a:Option Nat):List bb:=(a.bind (D.rs[·]?)).elim D.T.eI fun r=>[f3 r.post]
noncomputable def bX.jb(D:bX)(b:Nat):List bb:=(D.rs[b]?).elim D.T.ay fun r=>[f3 r.pre]
noncomputable def kQ(ws:List Int)(gs:List (List bb))(eb:Nat):Nat→Nat→List bb
 |_,0=>[]
 |k,m+1=>f3 (ws.getD k 0)::((bif U (k<eb)then gs.getD k []else[])++kQ ws gs eb (k+1) m)
theorem Wy{ws:List Int}{gs:List (List bb)}{eb k m:Nat}:kQ ws gs eb k (m+1)=f3 (ws.getD k 0)::((bif U (k<eb)then gs.getD k []else[])++kQ ws gs eb (k+1) m):=rfl
def bX.line(D:bX)(a:Option Nat)(b:Nat):List bb:=((D.gr++D.kP a)++D.jb b)++kQ D.ws D.gs (D.aw b) (D.lo a) (D.aw b+1-D.lo a)
noncomputable def hA(z W H K F:Int):Int×Int:=bif U (z-W>0)&&U (H>0)then(0,2)else bif U (z-W< -K)then(10001,3)
 else bif U (eJ ((z-W).natAbs:Nat) (bif U (z-W>0)then F else K)≤12)then(eJ ((z-W).natAbs:Nat) (bif U (z-W>0)then F else K),2)
 else(eJ ((z-W).natAbs:Nat) (bif U (z-W>0)then F else K),bif U (z-W<0)then 3 else bif U (eJ ((z-W).natAbs:Nat) (bif U (z-W>0)then F else K)≤99)then 1 else 0)
def iq(z:Int)(l:List bb):Int×Int:=hA z (l.map (·.w)).sum ((l.filter fun g=>decide (g.o>0)).map (·.s)).sum (l.map (·.k)).sum ((l.filter fun g=>decide (g.o=0)).map (·.s)).sum
theorem BP{C:Calls}{Q:R→St→Prop}{ss:bD}{a b:ao}{s0 s1:St}{lo:List (Option X)}{bs:Nat}{xs:List bb}{aS:List V}{g:bb}(aa:aj C a s0=I (.cell h.length,s1))(ar:s1.lst h.length=I aS)(ab:aj C b s1=I (.v (b7 g),⟨lo,h++[.lst (xs.map b7)],t,bs⟩))(hf:xs.length≤1000)(av:Wp Q (bI C ss ⟨lo,h++[.lst ((xs++[g]).map b7)],t,bs⟩)):Wp Q (bI C (.cons (.expr (.append a b)) ss) s0):=iK aa ar ab (eY 0) (fZ (by assumption) (by first|decide|lia)) (by erw[fy];exact ni 0 _) av
theorem BQ{C:Calls}{Q:R→St→Prop}{ss:bD}{a b:ao}{s0 s1:St}{lo:List (Option X)}{bs:Nat}{xs gs:List bb}{aS:List V}(aa:aj C a s0=I (.cell h.length,s1))(ar:s1.lst h.length=I aS)(ab:aj C b s1=I (.v (.lst (gs.map b7)),⟨lo,h++[.lst (xs.map b7)],t,bs⟩))(hf:xs.length+gs.length≤1000)(av:Wp Q (bI C ss ⟨lo,h++[.lst ((xs++gs).map b7)],t,bs⟩)):Wp Q (bI C (.cons (.expr (.extend a b)) ss) s0):=Ju aa ar ab (eY 0) (dO (by erw[b4,bF,bF];exact cz ‹_› rfl)) (by erw[fy];exact ni 0 _) av
noncomputable def nz(a:Option Nat):Int:=a.elim (-1) fun i=>i
theorem qb{α:Type}{f:α→V}{l:List α}{k:Nat}{x:α}(aC:l[k]? =I x)(ar:l.length≤1000):nZ (.lst (l.map f)) (.int (k:Int))=I (.v (f x)):=by have:gL (.lst (l.map f)) (.int (k:Int))=I (f x):=item_at (k:=k) (by erw[lP,aC];rfl) rfl (by have:=(d7.mp aC).1;exact r4 ‹_› ‹_› rfl);exact eo this rfl
theorem Wz{ws:List Int}{gs:List (List bb)}{eb:Nat}(aK:∀l,l∈gs→l.length≤2):∀(m k:Nat),(kQ ws gs eb k m).length≤3*m:=by
 intro eW
 induction eW with
 |zero=>intro _;exact bE _
 |succ m aD=>
  intro k;have:=aD (k+1);have ab:(gs.getD k []).length≤2:=by
   erw[je];cases aE:gs[k]? with
   |none=>exact fx _
   |some l=>exact aK l (fI aE)
  erw[Wy];erw[gA,b4];cases U (k<eb)
  ·show 0+_+1≤_;lia
  ·show(gs.getD k []).length+_+1≤_;lia
inductive WA(D:bX)(fin:List bb)(eb:Nat)(c2 x2:Option X)(h:List Cell)(t:Nat)(vs:List V)(st:St):Prop where
 |mk (k m:Nat) (acc:List bb) (x4 x6 x7 cW cX x10 x11 c5:Option X) (ay:vs=(uB k m).map fun i=>V.int (i:Nat)) (au:acc++kQ D.ws D.gs eb k m=fin) (bo:0<m→k+m≤eb+1)
  (dC:st=⟨[I (.cell 6),c2,x2,I (.cell h.length),x4,I (.v (.int eb)),x6,x7,cW,cX,x10,x11,c5],h++[.lst (acc.map b7)],t,h.length⟩)
theorem WB{l:List Int}(h:∀x,x∈l→0≤x∧x≤20):0≤l.sum∧l.sum≤20*l.length:=by
 induction l with
 |nil=>exact⟨by decide,by decide⟩
 |cons x r aG=>refine bC (fun a b=>?_) (aG fun y aV=>h y (.tail _ aV));refine bC (fun c d=>?_) (h x (.head _));erw[xO,gA,xI,LC,rP (20*_)];exact⟨r1 c a,kj d b⟩
end
section
variable{n t:Nat}{h:List Cell}
noncomputable abbrev tZ(k:Nat):ao:=.item (.loc 0) (.const (.str k))
noncomputable abbrev t2(l k:Nat):ao:=.item (.item (tZ 27) (.loc l)) (.const (.int k))
noncomputable abbrev WC:c8:=.ite (.cmp (.loc 1) .ge (.const (.int 0))) (.cons (.assign (.loc 4) (.bin .add (t2 1 0) (.const (.int 1)))) (.cons (.expr (.append (.loc 3) (.tup (.cons (t2 1 6) (.cons (.const (.int 0)) (.cons (.const (.int 0)) (.cons (.const (.int 0)) .nil))))))) .nil)) (.cons (.expr (.extend (.loc 3) (.item (tZ 57) (.const (.int 0))))) .nil)
noncomputable abbrev WD:c8:=.ite (.cmp (.loc 2) .lt (.bi .len (.cons (tZ 27) .nil))) (.cons (.assign (.loc 5) (t2 2 0)) (.cons (.expr (.append (.loc 3) (.tup (.cons (t2 2 5) (.cons (.const (.int 0)) (.cons (.const (.int 0)) (.cons (.const (.int 0)) .nil))))))) .nil)) (.cons (.expr (.extend (.loc 3) (.item (tZ 57) (.const (.int 1))))) .nil)
section
variable{C:Calls}{Q:R→St→Prop}{ss:bD}{D:bX}{a:Option Nat}{b bs:Nat}{c2 x2 x4 x5 x6 x7 cW cX x10 x11 c5:Option X}{acc:List bb}
theorem w0{l k i:Nat}{r:Row}{v:V}(dG:oQ D h)(ok:iL D){lo:List (Option X)}{e:List Cell}(h0:lo[0]? =I (I (.cell 6)))(ar:lo[l]? =I (I (.v (.int (i:Nat)))))(av:D.rs[i]? =I r)(aJ:gL (eM r) (.int (k:Nat))=I v):aj C (t2 l k) ⟨lo,h++e,t,bs⟩=I (.v v,⟨lo,h++e,t,bs⟩):=hj (gy (gy (aP h0) a9 (e7 dG.ke) rfl) (aP ar) (e7 dG.rs) (qb av (by have:=ok.b3;exact cz ‹_› rfl))) a9 aJ
theorem WE(dG:oQ D h)(ok:iL D)(aB:∀i,a=I i→i<D.rs.length)(ou:acc.length≤100)
  (av:Wp Q (bI C ss ⟨[I (.cell 6),I (.v (.int (nz a))),x2,I (.cell h.length),I (.v (.int (D.lo a))),x5,x6,x7,cW,cX,x10,x11,c5],h++[.lst ((acc++D.kP a).map b7)],t,bs⟩)):
  Wp Q (bI C (.cons WC ss) ⟨[I (.cell 6),I (.v (.int (nz a))),x2,I (.cell h.length),I (.v (.int 0)),x5,x6,x7,cW,cX,x10,x11,c5],h++[.lst (acc.map b7)],t,bs⟩):=by
 induction a using gJ with
 |none=>refine ij (rh (aP rfl) a9) rfl rfl ?_;exact BQ (gs:=D.T.eI) (aP rfl) (gV (eY 0)) (hj (gy (aP rfl) a9 (e7 dG.ke) rfl) a9 rfl) (by have:=ok.aT;exact kp ‹_› ‹_› rfl) av
 |some i=>have aw:=aB i rfl;have qc:=gp aw;refine ij (rh (aP rfl) a9) rfl rfl ?_;erw[show U (nz (I i)≥0)=true from decide_eq_true (nL i)];refine dT (nf (w0 (i:=i) dG ok rfl rfl qc rfl) a9) ?_;refine BP (g:=f3 D.rs[i].post) (aP rfl) (gV (eY 0)) (eX (bA (w0 (k:=6) (i:=i) dG ok rfl rfl qc rfl) (bA a9 (bA a9 (bA a9 dj)))) rfl) (cz ‹_› rfl) ?_;unfold bX.lo bX.kP at av;rw[show(I i).bind (D.rs[·]?)=I D.rs[i]from qc]at av;exact av
theorem WG(dG:oQ D h)(ok:iL D)(ae:b≤D.rs.length)(ou:acc.length≤200)
  (av:Wp Q (bI C ss ⟨[I (.cell 6),c2,I (.v (.int b)),I (.cell h.length),x4,I (.v (.int (D.aw b))),x6,x7,cW,cX,x10,x11,c5],h++[.lst ((acc++D.jb b).map b7)],t,bs⟩)):
  Wp Q (bI C (.cons WD ss) ⟨[I (.cell 6),c2,I (.v (.int b)),I (.cell h.length),x4,I (.v (.int ((D.ws.map V.int).length-1:Int))),x6,x7,cW,cX,x10,x11,c5],h++[.lst (acc.map b7)],t,bs⟩):=by
 have fr:fit (D.rs.map eM).length=true:=dO (by erw[bF];have:=ok.b3;exact cz ‹_› rfl);have ah:aj C (.cmp (.loc 2) .lt (.bi .len (.cons (tZ 27) .nil))) ⟨[I (.cell 6),c2,I (.v (.int b)),I (.cell h.length),x4,I (.v (.int ((D.ws.map V.int).length-1:Int))),x6,x7,cW,cX,x10,x11,c5],h++[.lst (acc.map b7)],t,bs⟩=I (.v (.bool (U ((b:Int)<((D.rs.map eM).length:Nat)))),⟨[I (.cell 6),c2,I (.v (.int b)),I (.cell h.length),x4,I (.v (.int ((D.ws.map V.int).length-1:Int))),x6,x7,cW,cX,x10,x11,c5],h++[.lst (acc.map b7)],t,bs⟩):=wt (aP rfl) (fY (bH (gy (aP rfl) a9 (e7 dG.ke) rfl) cV) (oP (gV (e7 dG.rs)) fr))
 refine ij ah rfl rfl ?_;unfold bX.aw bX.jb at av;cases aE:D.rs[b]? with
 |none=>have ar:=xV.mp aE;rw[aE]at av;erw[decide_eq_false (by erw[bF];exact x' ‹_›)];refine BQ (gs:=D.T.ay) (aP rfl) (gV (eY 0)) (hj (gy (aP rfl) a9 (e7 dG.ke) rfl) a9 rfl) (by have:=ok.aM;exact kp ‹_› ‹_› rfl) ?_;erw[show((D.ws.map V.int).length-1:Int)=((D.ws.length-1:Nat):Int)by erw[bF];have:=ok.w;lia];exact av
 |some r=>have ar:=(d7.mp aE).1;rw[aE]at av;erw[decide_eq_true (by erw[bF];exact mH ‹_›)];refine dT (w0 (i:=b) dG ok rfl rfl aE rfl) ?_;exact BP (g:=f3 r.pre) (aP rfl) (gV (eY 0)) (eX (bA (w0 (k:=5) (i:=b) dG ok rfl rfl aE rfl) (bA a9 (bA a9 (bA a9 dj)))) rfl) (cz ‹_› rfl) av
end
theorem w1{D:bX}(ok:iL D){b:Nat}:D.aw b<D.ws.length∧D.aw b≤D.gs.length:=by
 have h:=ok.w;unfold bX.aw;cases aE:D.rs[b]? with
 |none=>erw[h];exact⟨kk _,bE _⟩
 |some r=>have:=ok.r r (fI aE);exact⟨by erw[h];exact lO this,c' this⟩
structure oR(g:bb):Prop where
 s0:0≤g.s
 s1:g.s≤20
 kd:0≤g.k
 dH:g.k≤20
 o0:0≤g.o
 a0:g.o≤3
theorem JG(w:Int):oR (f3 w):=⟨by show(0:Int)≤0;decide,by show(0:Int)≤20;decide,by show(0:Int)≤0;decide,by show(0:Int)≤20;decide,by show(0:Int)≤0;decide,by show(0:Int)≤3;decide⟩
theorem hI.gz{g:bb}(h:hI g):oR g:=⟨h.s0,h.s1,h.kd,h.dH,h.o0,h.a0⟩
theorem WH{Q:bb→Prop}{D:bX}(ok:iL D){eb:Nat}(hw:∀w,Q (f3 w))(hp:∀g,jF g→Q g):∀(m k:Nat),∀g,g∈kQ D.ws D.gs eb k m→Q g:=by
 intro eW
 induction eW with
 |zero=>intro _ g h;exact absurd h kZ
 |succ m aD=>
  intro k g aK
  rcases ec.mp aK with rfl|aK
  ·exact hw _
  refine eF (dR.mp aK) (fun aK=>?_) (fun aK=>?_)
  ·cases hd:U (k<eb)with
   |false=>replace aK:=hd▸aK;exact absurd aK kZ
   |true=>
    replace aK:=hd▸aK;have aK:g∈D.gs.getD k []:=aK;replace aK:=je▸aK;cases aE:D.gs[k]? with
    |none=>replace aK:=aE▸aK;exact absurd aK kZ
    |some l=>replace aK:=aE▸aK;exact hp g (ok.a4 l (fI aE) g aK)
  ·exact aD (k+1) g aK
theorem JH{Q:bb→Prop}{D:bX}(ok:iL D)(hw:∀w,Q (f3 w))(hp:∀g,jF g→Q g)(dF:∀g,hI g→Q g){a:Option Nat}{b:Nat}:∀g,g∈D.line a b→Q g:=by
 intro g aK;refine eF (dR.mp aK) (fun aK=>?_) (fun aK=>?_)
 ·refine eF (dR.mp aK) (fun aK=>?_) (fun aK=>?_)
  ·refine eF (dR.mp aK) (fun aK=>?_) (fun aK=>?_)
   ·exact dF g (ok.gr g aK)
   ·unfold bX.kP at aK;cases aE:a.bind (D.rs[·]?)with
    |none=>replace aK:=aE▸aK;exact hp g (ok.eI g aK)
    |some r=>replace aK:=aE▸aK;erw[dY.mp aK];exact hw _
  ·unfold bX.jb at aK;cases aE:D.rs[b]? with
   |none=>replace aK:=aE▸aK;exact hp g (ok.ay g aK)
   |some r=>replace aK:=aE▸aK;erw[dY.mp aK];exact hw _
 ·exact WH ok hw hp _ _ g aK
theorem BR{α:Type}{a b:List α}{m n:Nat}(h:a.length≤m)(g:b.length≤n):(a++b).length≤m+n:=b4▸nJ h g
theorem WI{D:bX}(ok:iL D){a:Option Nat}{b:Nat}:(D.line a b).length≤100:=by
 have b0:(D.kP a).length≤1:=by
  unfold bX.kP;cases a.bind (D.rs[·]?)with
  |none=>exact ok.aT
  |some r=>exact bE _
 have d2:(D.jb b).length≤1:=by
  unfold bX.jb;cases D.rs[b]? with
  |none=>exact ok.aM
  |some r=>exact bE _
 exact cz (BR (BR (BR ok.qa b0) d2) (bR (Wz ok.g _ _) (qy 3 (bR (rX ..) (bR (w1 ok).1 ok.oz))))) rfl
end
section
variable{n t:Nat}{h:List Cell}
noncomputable abbrev WJ(i:Nat):ao:=.bi .sum (.cons (.comp (.item (.loc 10) (.const (.int (i:Nat)))) (.one 10) (.of (.loc 3))) .nil)
noncomputable abbrev JI(i:Nat)(o:bk):ao:=.bi .sum (.cons (.r' (.item (.loc 10) (.const (.int (i:Nat)))) (.one 10) (.of (.loc 3)) (.cmp (.item (.loc 10) (.const (.int 2))) o (.const (.int 0)))) .nil)
section
variable{C:Calls}{lo:List (Option X)}{l:List bb}{bs:Nat}
theorem JJ{i:Nat}{sel:bb→Int}(aL:∀g,gL (b7 g) (.int (i:Nat))=I (.int (sel g)))(aq:lo[3]? =I (I (.cell h.length)))(ar:10<lo.length)(hf:l.length≤1000):aj C (WJ i) ⟨lo,h++[.lst (l.map b7)],t,bs⟩=I (.v (.int (l.map sel).sum),⟨lo,h++[.lst (l.map b7)],t,bs⟩):=by refine eA fun cF=>?_;obtain⟨dX,e⟩:=Ww (C:=C) (k:=10) (h:=(h++[Cell.lst (l.map b7)]).set h.length .gone) (t:=t) (bs:=bs) aL l (lo.set 10 J) (by erw[kl];exact ar);refine cF ?_;exact fY (bH (BO rfl (aP aq) (eY 0) (fZ (by assumption) (by first|decide|lia)) e) cV) vo
theorem JK{i:Nat}{o:bk}{sel:bb→Int}{p:bb→Bool}(aL:∀g,gL (b7 g) (.int (i:Nat))=I (.int (sel g)))(ah:∀g:bb,∀st:St,st.cmp o (.v (.int g.o)) (.v (.int 0))=I (p g))(aq:lo[3]? =I (I (.cell h.length)))(ar:10<lo.length)(hf:l.length≤1000):aj C (JI i o) ⟨lo,h++[.lst (l.map b7)],t,bs⟩=I (.v (.int ((l.filter p).map sel).sum),⟨lo,h++[.lst (l.map b7)],t,bs⟩):=by refine eA fun cF=>?_;obtain⟨dX,e⟩:=Wx (C:=C) (k:=10) (h:=(h++[Cell.lst (l.map b7)]).set h.length .gone) (t:=t) (bs:=bs) (p:=p) (c:=.cmp (.item (.loc 10) (.const (.int 2))) o (.const (.int 0))) aL (fun g lo aK=>hW (hj (aP aK) a9 rfl) a9 (ah g _)) l (lo.set 10 J) (by erw[kl];exact ar);refine cF ?_;exact fY (bH (BO rfl (aP aq) (eY 0) (fZ (by assumption) (by first|decide|lia)) e) cV) vo
end
theorem get_map{l:List Int}{k:Nat}(ai:k<l.length):l[k]? =I (l.getD k 0):=by erw[je,gp ai];rfl
theorem BS{l:List (List bb)}{k:Nat}(ai:k<l.length):l[k]? =I (l.getD k []):=by erw[je,gp ai];rfl
theorem JL{l:List bb}{sel:bb→Int}(ar:l.length≤100)(h:∀g,g∈l→0≤sel g∧sel g≤20):0≤(l.map sel).sum∧(l.map sel).sum≤2000:=by
 have:=WB (l:=l.map sel) fun x aC=>by obtain⟨g,aK,rfl⟩:=f9.mp aC;exact h g aK
 rw[bF]at this
 lia
theorem w2{ws:List Int}{gs:List (List bb)}{eb k m:Nat}:kQ ws gs eb k (m+1)=f3 (ws.getD k 0)::((bif U (k<eb)then gs.getD k []else[])++kQ ws gs eb (k+1) m):=rfl
theorem BU{i j:Nat}:gM (i:Int) (j:Int)=(uB i (j-i)).map fun k=>V.int (k:Nat):=by unfold gM;erw[List.range'_eq_map_range,jP,Int.toNat_sub];exact nO fun k ag=>congrArg V.int (Int.natCast_add i k).symm
theorem WK{i j:Nat}:gM (i:Int) ((j:Int)+1)=(uB i (j+1-i)).map fun k=>V.int (k:Nat):=BU (j:=j+1)
set_option maxHeartbeats 1000000 in
theorem WL{D:bX}{a:Option Nat}{b:Nat}(dG:oQ D h)(ok:iL D)(aB:∀i,a=I i→i<D.rs.length)(ae:b≤D.rs.length):
  bu bl (n+2) 48 [.cell 6,.v (.int (nz a)),.v (.int b)] h t h.length=I (.v (IV (iq D.T.z (D.line a b))),h,t):=by
 have hlen:=WI ok (a:=a) (b:=b);have BV:=JH (Q:=oR) ok JG (fun g aK=>aK.b.gz) (fun g aK=>aK.gz) (a:=a) (b:=b);have BW:=w1 ok (b:=b);have wZ:=ok.oz;have abi:=ok.qa;have abj:(D.gr++D.kP a).length≤100:=bR (bR (C2 _ (D.jb b)).length_le (C2 ..).length_le) hlen
 ac_rfl
 refine hl (l:=[.cell h.length,.v (.int 0),.v (.int ((D.ws.map V.int).length-1:Int))]) (st1:=⟨_,h++[.lst (D.gr.map b7)],t,h.length⟩) (bH (wx (gy (aP rfl) a9 dG.ke rfl) (eo (gV dG.gr) rfl) rfl (fZ (by assumption) (by first|decide|lia))) (bH a9 (bH (oB (fY (bH (gy (aP rfl) a9 (e7 dG.ke) rfl) cV) (oP (gV (e7 dG.ws)) (fZ (by assumption) (by decide)))) a9) cV))) (by iterate fail) ?_
 refine WE dG ok aB (by exact cz ‹_› rfl) ?_;refine WG dG ok ae (by exact cz ‹_› rfl) ?_;have rm:D.lo a≤20:=by
  unfold bX.lo;cases aE:a.bind (D.rs[·]?)with
  |none=>exact fx _
  |some r=>
   have av:r∈D.rs:=by
    induction a using gJ with
    |none=>injections aE
    |some i=>exact fI aE
   exact bR (ok.r r av) (bR (xX (eQ ok.w.symm)) (cz wZ rfl))
 refine gW (Io (i:=(D.lo a:Nat)) (j:=((D.aw b:Nat):Int)+1) (by repeat1' fail) (by repeat1' fail) (cC.mpr ⟨cC.mpr ⟨decide_eq_true (by exact r5 rfl),decide_eq_true (by exact uD ‹_› rfl)⟩,cC.mpr ⟨decide_eq_true (by exact r5 rfl),decide_eq_true (x9 BW.1 wZ rfl)⟩⟩)) ?_;erw[WK];refine i7 (WA D (D.line a b) (D.aw b) (I (.v (.int (nz a)))) (I (.v (.int b))) h t) ?_ ?_ _ _ (.mk (D.lo a) (D.aw b+1-D.lo a) _ _ _ _ _ _ _ _ _ rfl rfl (fun h=>eQ (L2 (c' (L4 h)))) rfl)
 ·rintro v vs st ⟨k,m,acc,x4,x6,x7,cW,cX,x10,x11,c5,ay,au,bo,rfl⟩
  induction m using fe with
  |zero=>injections ay
  |succ m=>
  obtain⟨rfl,rfl⟩:=List.cons.inj ay;have bo:=bo (ji m);have ai:k<D.ws.length:=gI (bR (f6 k m) (o6 bo)) BW.1;have ou:acc.length+3≤110:=by
   have:acc.length≤(D.line a b).length:=by erw[←au,b4];exact f6 _ _
   exact kp (bR this hlen) (bE 3) rfl
  have WM:=qb (f:=V.int) (get_map ai) (by exact cz ‹_› rfl);refine fun Q cQ el=>⟨_,fD,?_⟩;refine BP (g:=f3 (D.ws.getD k 0)) (aP rfl) (gV (eY 0)) (eX (bA (gy (gy (aP rfl) a9 (e7 dG.ke) rfl) (aP rfl) (e7 dG.ws) WM) (bA a9 (bA a9 (bA a9 dj)))) rfl) (by exact ye ‹_› rfl) ?_
  iterate fail
  ·intro aa;have j0:=of_decide_eq_true aa;have BX:k<D.gs.length:=ey (Ds j0) BW.2;have WN:=qb (f:=lF) (BS BX) (bR (xX (eQ ok.w.symm)) (cz wZ rfl));have WO:(D.gs.getD k []).length≤2:=by erw[je,gp BX];exact ok.g _ (uu BX)
   refine BQ (gs:=D.gs.getD k []) (aP rfl) (gV (eY 0)) (gy (gy (aP rfl) a9 (e7 dG.ke) rfl) (aP rfl) (e7 dG.gs) WN) (by erw[b4];exact bR (lR WO _) (cz ou rfl)) ?_;refine gh (cQ _ _ rfl (.mk (k+1) m _ _ _ _ _ _ _ _ _ rfl ?_ (fun ag=>bR (eQ (iP k 1 m)) bo) rfl));erw[←au,w2,decide_eq_true (show k<D.aw b by exact Dd ‹_›),eR,eR];rfl
  ·intro aa;have j0:=of_decide_eq_false aa;refine gh (cQ _ _ rfl (.mk (k+1) m _ _ _ _ _ _ _ _ _ rfl ?_ (fun ag=>bR (eQ (iP k 1 m)) bo) rfl));erw[←au,w2,decide_eq_false (show¬k<D.aw b by exact De ‹_›),eR];rfl
 ·rintro st ⟨k,m,acc,x4,x6,x7,cW,cX,x10,x11,c5,ay,au,bo,rfl⟩
  induction m using fe with
  |succ=>injections ay
  |zero=>
  have au:acc=D.line a b:=by erw[←au];exact(ei _).symm
  subst au;refine dT (oB (gy (aP rfl) a9 (e7 dG.ke) rfl) (JJ (i:=0) (sel:=(·.w)) (fun ag=>rfl) rfl (by exact iO rfl) (by exact cz ‹_› rfl))) ?_;have fV:=JL (l:=D.line a b) (sel:=(·.k)) hlen fun g aK=>⟨(BV g aK).kd,(BV g aK).dH⟩;have dF:=JL (l:=(D.line a b).filter fun g=>decide (g.o=0)) (sel:=(·.s)) (bR (LU ..) hlen) fun g aK=>by have:=BV g ((CU.mp aK).1);exact⟨this.s0,this.s1⟩
  unfold iq;generalize eG:((D.line a b).map (·.w)).sum=W;have WQ:∀lo,lo[7]? =I (I (.v (.int (D.T.z-W))))→lo[3]? =I (I (.cell h.length))→10<lo.length→aj (bu bl (n+1)) (.and (.cmp (.loc 7) .gt (.const (.int 0))) (.cmp (JI 1 .gt) .gt (.const (.int 0)))) ⟨lo,h++[.lst ((D.line a b).map b7)],t,h.length⟩=I (.v (.bool (U (D.T.z-W>0)&&U (((((D.line a b).filter fun g=>decide (g.o>0)).map (·.s)).sum)>0))),⟨lo,h++[.lst ((D.line a b).map b7)],t,h.length⟩):=fun lo fk aq ar=>
   lz (pT (aP fk) a9) (pT (JK (i:=1) (sel:=(·.s)) (p:=fun g=>decide (g.o>0)) (fun ag=>rfl) (fun ag ag=>rfl) aq ar (by exact cz ‹_› rfl)) a9)
  refine ij (WQ _ rfl rfl (by exact iO rfl)) rfl rfl ?_;generalize m1:(((D.line a b).filter fun g=>decide (g.o>0)).map (·.s)).sum=H;refine n3 (fun aa=>?_) (fun aa=>?_)
  ·dsimp only[app]
   iterate fail
   refine nj ?_;unfold hA;erw[aa];rfl
  dsimp only[app]
  refine dT (JJ (i:=3) (sel:=(·.k)) (fun ag=>rfl) rfl (by exact iO rfl) (by exact cz ‹_› rfl)) ?_;generalize abk:((D.line a b).map (·.k)).sum=K at fV⊢
  iterate fail
  ·intro ab
   iterate fail
   refine nj ?_;unfold hA;erw[aa,ab];rfl
  intro ab;generalize WR:(((D.line a b).filter fun g=>decide (g.o=0)).map (·.s)).sum=F at dF⊢;have i4: -1000000000<(bif U (D.T.z-W>0)then F else K)∧(bif U (D.T.z-W>0)then F else K)<1000000000:=by cases U (D.T.z-W>0)<;>simp only[cond_true,cond_false]<;>exact MJ ‹_› rfl rfl
  refine dT (fo (bH (fY (bH (aP rfl) cV) rfl) (bH (A3 (pT (aP rfl) a9) (by erw[←WR];exact JK (i:=1) (sel:=(·.s)) (p:=fun g=>decide (g.o=0)) (fun ag=>rfl) (fun ag ag=>rfl) rfl (by exact iO rfl) (by exact cz ‹_› rfl)) (aP rfl)) cV)) (Wv (n:=n) (t:=t) (h:=h++[.lst ((D.line a b).map b7)]) (e:=((D.T.z-W).natAbs:Nat)) (w:=bif U (D.T.z-W>0)then F else K) (nL _) i4.1 i4.2)) ?_
  iterate fail
  ·intro aq
   iterate fail
   refine nj ?_;unfold hA;erw[aa,ab,aq];rfl
  ·intro aq
   iterate fail
   refine nj ?_;unfold hA;erw[aa,ab,aq];rfl
end
section
variable{n t:Nat}{h:List Cell}
noncomputable def Bq:Row:=⟨0,0,0,0,0,0,false,0,0⟩
def bX.row(D:bX)(i:Nat):Row:=(D.rs[i]?).getD Bq
theorem hZ{D:bX}{i:Nat}(aw:i<D.rs.length):D.rs[i]? =I (D.row i):=by unfold bX.row;erw[gp aw];rfl
noncomputable def nA(a:Option Nat):Nat:=a.elim 0 (· +1)
theorem WS(a:Option Nat):nz a+1=(nA a:Nat):=by cases a<;>rfl
structure BY(D:bX)(a:Option Nat)(b:Nat):Prop where
 ca:∀i,a=I i→i<D.rs.length
 dy:b≤D.rs.length
 m7:∀t,nA a≤t→t<b→ -10000<(D.row t).b9
 bad:(iq D.T.z (D.line a b)).1≤p4 D.T.most
noncomputable def w3(c:Int):Int:=bif U (c≥10000)then 100000000 else c*c
noncomputable def rA(p:Int):Int:=bif U (p> -10000)then p*(p.natAbs:Nat)else 0
def bX.dV(D:bX)(a:Option Nat)(b:Nat):Int:=a.elim 0 fun i=>bif (D.row i).cf&&(D.row b).cf then D.S.dV else 0
def bX.step(D:bX)(a:Option Nat)(b:Nat)(f:Int):Int:=w3 (D.S.cS+(iq D.T.z (D.line a b)).1)+(bif U (b<D.rs.length)then rA (D.row b).b9+D.dV a b else 0)+(bif U ((((iq D.T.z (D.line a b)).2-f).natAbs:Nat)>(1:Int))then D.S.cu else 0)
noncomputable def oS(D:bX):Option Nat→List Nat→Prop
 |_,[]=>True
 |a,b::r=>BY D a b∧oS D (I b) r
noncomputable def bX.cost(D:bX):Option Nat→Int→List Nat→Int
 |_,_,[]=>0
 |a,f,b::r=>D.step a b f+D.cost (I b) (iq D.T.z (D.line a b)).2 r
inductive WT(D:bX)(kI:Int)(h:List Cell)(t:Nat)(c2:Option X)(vs:List V)(st:St):Prop where
 |mk (a:Option Nat) (f d:Int) (r:List Nat) (x7 cW cX x10 x11 c5 x13 x14 fF:Option X) (ay:vs=r.map fun b=>V.int (b:Nat)) (au:oS D a r) (bo:d+D.cost a f r=kI)
  (dC:st=⟨[I (.cell 6),c2,I (.cell 5),I (.cell 1),I (.v (.int (nz a))),I (.v (.int f)),I (.v (.int d)),x7,cW,cX,x10,x11,c5,x13,x14,fF],h,t,h.length⟩)
inductive WU(D:bX)(a:Option Nat)(b:Nat)(f d:Int)(h:List Cell)(t:Nat)(c2 cX x10 x11 c5 x13 x14 fF:Option X)(vs:List V)(st:St):Prop where
 |mk (k m:Nat) (cW:Option X) (ay:vs=(uB k m).map fun i=>V.int (i:Nat)) (au:nA a≤k) (bo:0<m→k+m≤b)
  (dC:st=⟨[I (.cell 6),c2,I (.cell 5),I (.cell 1),I (.v (.int (nz a))),I (.v (.int f)),I (.v (.int d)),I (.v (.int (b:Nat))),cW,cX,x10,x11,c5,x13,x14,fF],h,t,h.length⟩)
theorem add_l{st st1 st2:St}{C:Calls}{a b:ao}{xs aS:List V}(aa:aj C a st=I (.v (.lst xs),st1))(ab:aj C b st1=I (.v (.lst aS),st2))(hf:fit (xs.length+aS.length)=true):aj C (.bin .add a b) st=I (.v (.lst (xs++aS)),st2):=j4 aa ab rfl rfl (if_pos hf)
theorem WV{z W H K F:Int}:mw (hA z W H K F):=by
 have mk:∀{f:Int},0≤f→f≤3→mw (eJ ((z-W).natAbs:Nat) (bif U (z-W>0)then F else K),f):=fun aa ab=>by have:=tM (e:=((z-W).natAbs:Nat)) (w:=bif U (z-W>0)then F else K) (nL _);exact⟨this.1,by show _≤(10001:Int);have:=this.2;exact d3 ‹_› rfl,aa,ab⟩
 unfold hA;cases U (z-W>0)&&U (H>0)
 ·cases U (z-W< -K)
  ·cases U (eJ ((z-W).natAbs:Nat) (bif U (z-W>0)then F else K)≤12)
   ·cases U (z-W<0)
    ·cases U (eJ ((z-W).natAbs:Nat) (bif U (z-W>0)then F else K)≤99)
     ·exact mk (f:=0) (by decide) (by decide)
     ·exact mk (f:=1) (by decide) (by decide)
    ·exact mk (f:=3) (by decide) (by decide)
   ·exact mk (f:=2) (by decide) (by decide)
  ·exact(⟨by decide,by decide,by decide,by decide⟩:mw (10001,3))
 ·exact(⟨by decide,by decide,by decide,by decide⟩:mw (0,2))
noncomputable abbrev WW:ao:=.k2 (.and (.cmp (.loc 4) .ge (.const (.int 0))) (.and (.item (.item (.loc 2) (.loc 4)) (.const (.int 4))) (.item (.item (.loc 2) (.loc 7)) (.const (.int 4))))) (.attr (.loc 3) 35) (.const (.int 0))
theorem WX{D:bX}{a:Option Nat}{b bs:Nat}{C:Calls}{lo:List (Option X)}(dG:oQ D h)(ok:iL D)(aB:∀i,a=I i→i<D.rs.length)(ae:b<D.rs.length)(ab:lo[2]? =I (I (.cell 5)))(aq:lo[3]? =I (I (.cell 1)))(ba:lo[4]? =I (I (.v (.int (nz a)))))(fk:lo[7]? =I (I (.v (.int (b:Nat))))):aj C WW ⟨lo,h,t,bs⟩=I (.v (.int (D.dV a b)),⟨lo,h,t,bs⟩):=by
 have Iw:=ok.b3
 induction a using gJ with
 |none=>exact jB (p:=false) (tA (rh (aP ba) a9) rfl) (fun h=>nomatch h) (fun ag=>a9)
 |some i=>
  have aw:=aB i rfl;have a8:=qb (f:=eM) (hZ aw) (cz ‹_› rfl);have b3:=qb (f:=eM) (hZ ae) (cz ‹_› rfl);have ah:aj C (.and (.cmp (.loc 4) .ge (.const (.int 0))) (.and (.item (.item (.loc 2) (.loc 4)) (.const (.int 4))) (.item (.item (.loc 2) (.loc 7)) (.const (.int 4))))) ⟨lo,h,t,bs⟩=I (.v (.bool (U ((i:Int)≥0)&&((D.row i).cf&&(D.row b).cf))),⟨lo,h,t,bs⟩):=lz (rh (aP ba) a9) (lz (hj (gy (aP ab) (aP ba) dG.rs a8) a9 rfl) (hj (gy (aP ab) (aP fk) dG.rs b3) a9 rfl))
  rw[decide_eq_true (nL i),lU]at ah;exact A2 ah (fun ag=>tC (aP aq) dG.fQ rfl) (fun ag=>a9)
theorem JM{D:bX}{a:Option Nat}{b:Nat}{f d x y z' w c kI:Int}(aC:w3 (D.S.cS+(iq D.T.z (D.line a b)).1)=x)(aV:(bif U (b<D.rs.length)then rA (D.row b).b9+D.dV a b else 0)=y+z')(hw:(bif U ((((iq D.T.z (D.line a b)).2-f).natAbs:Nat)>(1:Int))then D.S.cu else 0)=w)(h:d+(D.step a b f+c)=kI):d+x+y+z'+w+c=kI:=by
 unfold bX.step at h;rw[aC,aV,hw]at h
 lia
set_option maxHeartbeats 1000000 in
theorem JN{D:bX}{l:List Nat}(dG:oQ D h)(ok:iL D)(fM:0≤D.S.cS∧D.S.cS≤100)(ar:l.length≤100)(ah:oS D J (l++[D.rs.length]))(hp:∀i,Num (D.row i).b9):
  bu bl (n+3) 49 [.cell 6,.v (.lst (l.map fun b=>.int (b:Nat)))] h t h.length=I (.v (.int (D.cost J 2 (l++[D.rs.length]))),h,t):=by
 have fr:fit (D.rs.map eM).length=true:=dO (by erw[bF];have:=ok.b3;exact cz ‹_› rfl);have BZ:(D.rs.map eM).length=D.rs.length:=bF ..;have hlen:∀st:St,st.heap=h→hP .len st [.cell 5]=I (.v (.int D.rs.length),st):=fun st hh=>by erw[←BZ];exact oP (bz (by erw[hh];exact dG.rs) rfl) fr
 ac_rfl
 refine hl (l:=[.cell 5,.cell 1,.v (.int (-1)),.v (.int 2),.v (.int 0)]) (by repeat1' (first|exact dG.ke|exact rfl)) (by iterate fail) ?_
 refine gW (hk (vs:=(l++[D.rs.length]).map fun b=>V.int (b:Nat)) (add_l (aP rfl) (hX (bA (fY (bH (aP rfl) cV) (hlen _ rfl)) dj) rfl) (dO (by erw[bF];exact nT ‹_› rfl))) (by erw[fy];rfl) (dO (by erw[bF,b4];exact nT ‹_› rfl))) ?_;refine i7 (WT D (D.cost J 2 (l++[D.rs.length])) h t _) ?_ ?_ _ _ (.mk J 2 0 (l++[D.rs.length]) _ _ _ _ _ _ _ _ _ rfl ah (ko _) rfl)
 ·rintro v vs st ⟨a,f,d,r,x7,cW,cX,x10,x11,c5,x13,x14,fF,ay,au,bo,rfl⟩
  induction r using bY with
  |nil=>injections ay
  |cons b r=>
  obtain⟨rfl,rfl⟩:=List.cons.inj ay;obtain⟨⟨mq,iG,WY,WZ⟩,au⟩:=au;refine fun Q cQ el=>⟨_,fD,?_⟩;have aG:inR ((nA a:Nat):Int)=true∧inR ((b:Nat):Int)=true:=by
   have:=ok.b3;have:nA a≤20:=by
    induction a using gJ with
    |none=>exact fx _
    |some i=>have:=mq i rfl;exact r3 ‹_› ‹_› rfl
   exact⟨cC.mpr ⟨decide_eq_true (r5 rfl),decide_eq_true (uD this rfl)⟩,cC.mpr ⟨decide_eq_true (r5 rfl),decide_eq_true (x9 iG ok.b3 rfl)⟩⟩
  refine gW (Io (i:=(nA a:Nat)) (j:=(b:Nat)) (by erw[←WS];repeat1' fail) (by repeat1' fail) (cC.mpr aG)) ?_;erw[BU];refine i7 (WU D a b f d h t _ cX x10 x11 c5 x13 x14 fF) ?_ ?_ _ _ (.mk (nA a) (b-nA a) cW rfl (bE _) (fun h=>eQ (L2 (c' (L4 h)))) rfl)
  ·rintro v vs st ⟨k,m,W0,cg,dC,gG,rfl⟩
   induction m using fe with
   |zero=>injections cg
   |succ m=>
   obtain⟨rfl,rfl⟩:=List.cons.inj cg;have gG:=gG (ji m);have JO:k<b:=ey (qw (ji m)) gG;have ai:=WY k dC JO;have W2:=qb (f:=eM) (hZ (D:=D) (i:=k) (ey JO iG)) (by have:=ok.b3;exact cz ‹_› rfl);refine fun Q cQ el=>⟨_,fD,?_⟩
   iterate (first|exact dG.rs|exact W2|exact rfl)
   ·intro aa;have:=of_decide_eq_true aa;exact absurd ‹_› (ez.mpr ‹_›)
   ·intro _;refine gh (cQ _ _ rfl (.mk (k+1) m _ rfl (yb ‹_›) (fun ag=>bR (eQ (iP k 1 m)) gG) rfl))
  ·rintro st ⟨k,m,W0,cg,dC,gG,rfl⟩;have jv:=WL (n:=n) (t:=t) dG ok mq iG;have el:mw (iq D.T.z (D.line a b)):=WV;obtain⟨F,fV⟩:∃F,iq D.T.z (D.line a b)=F:=⟨_,rfl⟩
   rw[fV]at jv WZ el;have vA:=fM.1;have FO:=fM.2;have vc:=el.lW;have abl:=el.g4;have nu:(small (D.S.cS+F.1)||small (D.S.cS+F.1))=true:=by erw[j5 (a:=D.S.cS+F.1) (Dr ‹_› ‹_› rfl) (Dq ‹_› ‹_› rfl)];rfl
   refine wC (vs:=[.int F.1,.int F.2]) (fo (by repeat1' fail) jv) (by dsimp only[List.map];iterate fail) ?_
   iterate (exact dG.ke)
   ·intro aa;have aa:F.1>p4 D.T.most:=of_decide_eq_true aa;exact absurd ‹_› (ez.mpr ‹_›)
   intro _;have W3:∀(lo:List (Option X)) (bs:Nat),hP .len ⟨lo,h,t,bs⟩ [.cell 5]=I (.v (.int D.rs.length),⟨lo,h,t,bs⟩):=fun ag ag=>hlen _ rfl
   iterate (first|exact dG.ke|exact dG.fQ|exact nu|exact W3 _ _|((with_reducible apply j4)<;>exact rfl))
   ·intro aa;have j0:=of_decide_eq_true aa;have bf:b<D.rs.length:=by exact Dd ‹_›
    have W4:=qb (f:=eM) (hZ bf) (by have:=ok.b3;exact cz ‹_› rfl);have JP:=hp b;have W5:(small (D.row b).b9||small ((D.row b).b9.natAbs:Nat))=true:=by rw[j5 (a:=(D.row b).b9) (by have:=JP.1;exact d0 ‹_› rfl) (by have:=JP.2;exact k0 ‹_› rfl)];rfl
    refine dT (hj (gy (aP rfl) (aP rfl) dG.rs W4) a9 rfl) ?_;refine A' rfl (j:=rA (D.row b).b9) (A3 (pT (aP rfl) (wo a9)) (oC (aP rfl) (fY (bH (aP rfl) cV) rfl) W5) a9) ?_;refine A' rfl (WX dG ok mq bf rfl rfl rfl rfl) ?_
    iterate (exact dG.fQ)
    exact cQ _ _ rfl (.mk (I b) F.2 _ r _ _ _ _ _ _ _ _ _ rfl au (by erw[←fV];exact JM (by erw[fV];rfl) (by erw[decide_eq_true bf];rfl) rfl bo) rfl)
   ·intro aa;have j0:=of_decide_eq_false aa;have bf:¬b<D.rs.length:=by exact De ‹_›
    iterate (exact dG.fQ)
    refine cQ _ _ rfl (.mk (I b) F.2 _ r _ _ _ _ _ _ _ _ _ rfl au ?_ rfl);have:=JM (D:=D) (a:=a) (b:=b) (f:=f) (d:=d) (y:=0) (z':=0) rfl (by erw[decide_eq_false bf];rfl) rfl bo;rw[eP,eP,fV]at this;exact this
 ·rintro st ⟨a,f,d,r,x7,cW,cX,x10,x11,c5,x13,x14,fF,ay,au,bo,rfl⟩
  induction r using bY with
  |cons=>injections ay
  |nil=>
  show Wp _ _
  iterate fail
  exact dN (by erw[←bo];exact congrArg V.int (eP _).symm)
end
section
variable{n t:Nat}{h:List Cell}
theorem W6{it:aI}{st:St}:st.cmp .nW (.v (enc it)) (.v (enc it))=I false:=by
 cases it
 all_goals exact eo (bz rfl (bz rfl (if_pos rfl))) rfl
theorem W7{C:Calls}{Q:R→St→Prop}{a b x4 x5 x6:Option X}{bs:Nat}:∀(l:List aI) (x2 x3:Option X),(∀x2 x3,Q .next ⟨[a,b,x2,x3,x4,x5,x6],h,t,bs⟩)→Wp Q (forL (.many [2,3]) (bI C (.cons (.ite (.cmp (.loc 2) .nW (.loc 3)) (.cons (.ret (.const (.bool false))) .nil) .nil) .nil)) (k4 (l.map enc) (l.map enc)) ⟨[a,b,x2,x3,x4,x5,x6],h,t,bs⟩):=by
 intro aT
 induction aT with
 |nil=>intro x2 x3 aE;exact pW (aE x2 x3)
 |cons it l aD=>intro x2 x3 aE;refine pX tF ?_;refine ij (d:=false) (hW (aP rfl) (aP rfl) W6) rfl rfl ?_;exact gh ⟨rfl,aD _ _ aE⟩
theorem W8{l:List aI}(ar:l.length≤1000):bu bl (n+1) 50 [.v (.lst (l.map enc)),.v (.lst (l.map enc))] h t h.length=I (.v (.bool true),h,t):=by
 have hf:fit (l.map enc).length=true:=fZ (by assumption) (by first|decide|lia)
 ac_rfl
 iterate (exact j6 hf)
 ·intro aa;rw[decide_eq_true rfl]at aa;injections aa
 intro _;refine gW (Ut (by repeat1' fail) (by repeat1' fail) (dO (by rw[bF];exact kp ‹_› ‹_› rfl))) ?_;refine W7 l _ _ fun x2 x3=>?_;show Wp _ _
 iterate fail
 exact dN rfl
theorem W9{lo:List (Option X)}{bs:Nat}{z:Int}{st:St}{es:az}(aa:dq (bu bl (n+3)) es st=I ([.v (.int z)],⟨lo,h,t,bs⟩))(bw:i8 z):aj (bu bl (n+3)) (.new 7 es) st=I (.v (pY z),⟨lo,h,t,bs⟩):=lA aa (UW bw) rfl rfl
theorem JQ{D:bX}{af:List aI}{S:cj}{s:Nat}{last:Bool}(a5:h[6]? =I (.e9 (rz D)))(aL:h[s]? =I S.cell)(ok:p5 af S D.T.z D.T.most D.T.x):
  bu bl (n+6) 51 [.cell 6,.v (.lst (af.map enc)),.cell s,.v (.bool last)] h t h.length=I (.v (ru (nodes af (b6 S.hp af)) (hF (kb af S s h.length D.T.z D.T.most D.T.x last).par last S.loose)),h,t):=by
 have aA:=ok.n;have hf:fit (af.map enc).length=true:=fZ (by assumption) (by first|decide|lia)
 have ar:∀st:St,hP .list st [.v (.lst (af.map enc))]=I (.v (.lst (af.map enc)),st):=fun st=>by have e:∀xs:List V,hP .list st [.v (.lst xs)]=(if fit xs.length then I (V.lst xs)else J).map fun r=>(X.v r,st):=fun ag=>rfl;erw[e,if_pos hf];rfl
 ac_rfl
 refine dT (fY (bH (aP rfl) cV) (ar _)) ?_;refine dT (fo (bH (aP rfl) (bH (aP rfl) (bH (W9 (bH (gy (aP rfl) a9 a5 rfl) cV) ok.VP) (bH (gy (aP rfl) a9 a5 rfl) (bH (gy (aP rfl) a9 a5 rfl) (bH (aP rfl) cV)))))) (VT (n:=n) (t:=t) (last:=last) aL ok)) ?_;refine hY (jB (p:=true) (fo (bH (aP rfl) (bH (aP rfl) cV)) (W8 (cz ‹_› rfl))) (fun ag=>aP rfl) (fun h=>nomatch h)) ?_;exact dN rfl
theorem ints_map:∀l:List Int,h4 (l.map .int)=I l:=by
 intro aT
 induction aT with
 |nil=>exact rfl
 |cons i r aD=>show(h4 (r.map .int)).map (i:: ·)=_;erw[aD];rfl
theorem B0{st:St}{l:List Int}:st.cmp .eq (.v (.lst (l.map .int))) (.v (.lst (l.map .int)))=I true:=by show(if(l.map V.int).length=(l.map V.int).length then pf (l.map .int) (l.map .int)else I false)=_;erw[if_pos rfl];unfold pf;erw[ints_map];show I (U (l=l))=_;erw[decide_eq_true rfl]
theorem Xa{st:St}{l:List Int}{i:Int}:st.cmp .fA (.v (.int i)) (.v (.lst (l.map .int)))=I (l.contains i):=by show(h4 (l.map .int)).map (fun l=>l.contains i)=_;rw[ints_map];rfl
theorem Xb{C:Calls}{Q:R→St→Prop}{a b c x4 x5 x6 x7:Option X}{bs:Nat}:∀(l:List Int) (x3:Option X),(∀x3,Q .next ⟨[a,b,c,x3,x4,x5,x6,x7],h,t,bs⟩)→Wp Q (forL (.one 3) (bI C (.cons (.ite (.bi .isBool (.cons (.loc 3) .nil)) (.cons (.ret (.const .bB)) .nil) .nil) .nil)) (l.map .int) ⟨[a,b,c,x3,x4,x5,x6,x7],h,t,bs⟩):=by
 intro aT
 induction aT with
 |nil=>intro x3 aE;exact pW (aE x3)
 |cons i l aD=>intro x3 aE;refine pX fD ?_;refine ij (d:=false) (fY (bH (aP rfl) cV) rfl) rfl rfl ?_;exact gh ⟨rfl,aD _ aE⟩
theorem Xc{C:Calls}{ans:List Int}{bs:Nat}{b c x3 x4 x7:Option X}:∀(pl:List Int) (k:Nat) (x5 x6:Option X),∃dX,fh (.many [5,6]) (fun st=>hO (aj C (.cmp (.loc 6) .fA (.loc 0)) st)) (fun st=>gN (aj C (.loc 5) st)) (pairs k (pl.map .int)) ⟨[I (.v (.lst (ans.map .int))),b,c,x3,x4,x5,x6,x7],h,t,bs⟩=I (((pl.zipIdx k).filter fun p=>ans.contains p.1).map fun p=>V.int (p.2:Nat),⟨dX,h,t,bs⟩):=by
 intro aT
 induction aT with
 |nil=>intro k x5 x6;exact⟨_,rfl⟩
 |cons p pl aD=>
  intro k x5 x6;refine f7 (aD (k+1) (I (.v (.int k))) (I (.v (.int p)))) fun dX e=>?_;have aa:∀r,ans.contains p=r→aj C (.cmp (.loc 6) .fA (.loc 0)) ⟨[I (.v (.lst (ans.map .int))),b,c,x3,x4,I (.v (.int k)),I (.v (.int p)),x7],h,t,bs⟩=I (.v (.bool r),⟨[I (.v (.lst (ans.map .int))),b,c,x3,x4,I (.v (.int k)),I (.v (.int p)),x7],h,t,bs⟩):=fun r av=>by erw[←av];exact hW (aP rfl) (aP rfl) Xa
  refine⟨dX,?_⟩;erw[List.zipIdx_cons,xY];cases ah:ans.contains p with
  |true=>exact wA tF (aa _ ah) (aP rfl) e
  |false=>exact wB tF (aa _ ah) e
theorem Xd{C:Calls}{pl:List Int}{bs:Nat}{a c x3 x4 x6 x7:Option X}(ar:pl.length≤1000):∀(idx:List Nat) (x5:Option X),(∀i,i∈idx→i<pl.length)→∃dX,fh (.one 5) (fun st=>I (true,st)) (fun st=>gN (aj C (.item (.loc 1) (.loc 5)) st)) (idx.map fun i=>V.int (i:Nat)) ⟨[a,I (.v (.lst (pl.map .int))),c,x3,x4,x5,x6,x7],h,t,bs⟩=I ((idx.map fun i=>pl.getD i 0).map .int,⟨dX,h,t,bs⟩):=by
 intro aT
 induction aT with
 |nil=>intro x5 _;exact⟨_,rfl⟩
 |cons i idx aD=>intro x5 aw;refine f7 (aD (I (.v (.int i))) fun j a'=>aw j (.tail _ a')) fun dX e=>?_;have aw:=aw i (.head _);refine⟨dX,rj fD (hj (aP rfl) (aP rfl) (w:=.int (pl.getD i 0)) (item_at (k:=i) ?_ rfl (r4 ‹_› ‹_› rfl))) e⟩;erw[lP,get_map aw];rfl
structure w4(ans pl:List Int)(en:Int)(idx:List Nat):Prop where
 f:((pl.zipIdx 0).filter fun p=>ans.contains p.1).map (·.2)=idx
 i:∀i,i∈idx→i<pl.length
 e:ans=(idx.map fun i=>pl.getD i 0)++[en]
theorem JR{ans pl:List Int}{en:Int}{idx:List Nat}(av:w4 ans pl en idx)(aB:ans.length≤1000)(hp:pl.length≤1000):
  bu bl (n+1) 52 [.v (.lst (ans.map .int)),.v (.lst (pl.map .int)),.v (.int en)] h t h.length=I (.v (.lst (idx.map fun i=>.int (i:Nat))),h,t):=by
 have dW:fit (ans.map V.int).length=true:=fZ (by assumption) (by first|decide|lia)
 have bq:fit (pl.map V.int).length=true:=fZ (by assumption) (by first|decide|lia)
 have GV:idx.length≤ans.length:=by erw[av.e,b4,bF];exact f6 _ _
 ac_rfl
 refine gW (hk (by repeat1' fail) rfl dW) ?_;refine Xb ans _ fun x3=>?_;refine f7 (Xc (C:=bu bl n) (h:=h) (t:=t) (ans:=ans) (bs:=h.length) (b:=I (.v (.lst (pl.map .int)))) (c:=I (.v (.int en))) (x3:=x3) (x4:=J) (x7:=J) pl 0 J J) fun dX e=>?_;have hm:(((pl.zipIdx 0).filter fun p=>ans.contains p.1).map fun p=>V.int (p.2:Nat))=idx.map fun i=>V.int (i:Nat):=by erw[←av.f,jP];rfl
 rw[hm]at e;refine dT (A7 (A6 (aP rfl) bq) e) ?_;refine f7 (Xd (C:=bu bl n) (h:=h) (t:=t) (pl:=pl) (bs:=h.length) (a:=I (.v (.lst (ans.map .int)))) (c:=I (.v (.int en))) (x3:=x3) (x4:=I (.v (.lst (idx.map fun i=>V.int (i:Nat))))) (x6:=J) (x7:=J) hp idx J av.i) fun Xe au=>?_;have aC:((idx.map fun i=>pl.getD i 0).map V.int++[V.int en])=ans.map .int:=by erw[av.e,fy];rfl
 have ax:aj (bu bl n) (.bin .add (.comp (.item (.loc 1) (.loc 5)) (.one 5) (.of (.loc 4))) (.lst (.cons (.loc 2) .nil))) ⟨[I (.v (.lst (ans.map .int))),I (.v (.lst (pl.map .int))),I (.v (.int en)),x3,I (.v (.lst (idx.map fun i=>V.int (i:Nat)))),J,J,J],h,t,h.length⟩=I (.v (.lst (ans.map .int)),⟨[I (.v (.lst (ans.map .int))),I (.v (.lst (pl.map .int))),I (.v (.int en)),x3,I (.v (.lst (idx.map fun i=>V.int (i:Nat)))),J,J,J],h,t,h.length⟩):=(add_l (ri (hk (aP rfl) rfl (fZ (by assumption) (by first|decide|exact cz ‹_› rfl))) au) (hX (bA (aP rfl) dj) rfl) (dO (by erw[bF,bF];show _+1≤_;lia))).trans (by erw[aC])
 exact hY (jB (p:=true) (hW ax (aP rfl) B0) (fun ag=>aP rfl) (fun h=>nomatch h)) (dN rfl)
end
section
variable{n t:Nat}{h:List Cell}
theorem B1{α:Type}{f g:α→V}{C:Calls}{k bs:Nat}{elt:ao}{P:List (Option X)→Prop}(dM:∀lo x,P lo→P (lo.set k x))(he:∀x lo,P lo→lo[k]? =I (I (.v (f x)))→aj C elt ⟨lo,h,t,bs⟩=I (.v (g x),⟨lo,h,t,bs⟩)):∀(l:List α) (lo:List (Option X)),k<lo.length→P lo→∃dX,fh (.one k) (fun st=>I (true,st)) (fun st=>gN (aj C elt st)) (l.map f) ⟨lo,h,t,bs⟩=I (l.map g,⟨dX,h,t,bs⟩):=by
 intro aT
 induction aT with
 |nil=>intro lo _ _;exact⟨lo,rfl⟩
 |cons x r aD=>intro lo ai hp;obtain⟨dX,e⟩:=aD (lo.set k (I (.v (f x)))) (by erw[kl];exact ai) (dM _ _ hp);exact⟨dX,rj fD (he x _ (dM _ _ hp) (by erw[xW ai])) e⟩
structure JS(D:bX)(ans mz:List Int)(idx jK:List Nat):Prop where
 r:w4 ans (D.rs.map fun r=>(r.first:Nat)) D.en idx
 dz:w4 mz (D.rs.reverse.map fun r=>(D.en:Int)-1-(r.last:Nat)) D.en jK
 c:oS D J (idx++[D.rs.length])
 dr:oS D J ((jK.reverse.map fun i=>D.rs.length-1-i)++[D.rs.length])
 e:D.cost J 2 (idx++[D.rs.length])=D.cost J 2 ((jK.reverse.map fun i=>D.rs.length-1-i)++[D.rs.length])
 l:idx.length≤100
 di:jK.length≤100
noncomputable abbrev B2(ans mz:List Int)(x5 x6 x7 cW cX x10:Option X)(en:Int):List (Option X):=[I (.cell 6),I (.v (.lst (ans.map .int))),I (.v (.lst (mz.map .int))),I (.cell 5),I (.v (.int en)),x5,x6,x7,cW,cX,x10]
set_option maxHeartbeats 1000000 in
theorem Xf{D:bX}{ans mz:List Int}{idx jK:List Nat}(dG:oQ D h)(ok:iL D)(fM:0≤D.S.cS∧D.S.cS≤100)(hp:∀i,Num (D.row i).b9)(al:JS D ans mz idx jK):
  bu bl (n+4) 53 [.cell 6,.v (.lst (ans.map .int)),.v (.lst (mz.map .int))] h t h.length=I (.v (.bool true),h,t):=by
 have ab:=ok.b3;have Xg:=al.l;have Xh:=al.di;have fr:fit (D.rs.map eM).length=true:=fZ (by assumption) (by first|decide|lia)
 have gm:ans.length≤1000:=by erw[al.r.e,b4,bF];show _+1≤_;exact nT ‹_› rfl
 have Xi:mz.length≤1000:=by erw[al.dz.e,b4,bF];show _+1≤_;exact nT ‹_› rfl
 have BZ:(D.rs.map eM).length=D.rs.length:=bF ..;have hlen:∀(lo:List (Option X)),hP .len ⟨lo,h,t,h.length⟩ [.cell 5]=I (.v (.int D.rs.length),⟨lo,h,t,h.length⟩):=fun lo=>by erw[←BZ];exact oP (gV dG.rs) fr
 have ai:=JR (n:=n+2) (h:=h) (t:=t) al.r gm (by erw[bF];exact cz ‹_› rfl);have l7:=JR (n:=n+2) (h:=h) (t:=t) al.dz Xi (by erw[bF,ff];exact cz ‹_› rfl);have ah:=JN (n:=n) (t:=t) dG ok fM Xg al.c hp;have iY:=JN (n:=n) (t:=t) dG ok fM (l:=jK.reverse.map fun i=>D.rs.length-1-i) (by erw[bF,ff];exact Xh) al.dr hp
 ac_rfl
 refine hl (l:=[.cell 5,.v (.int D.en)]) (by repeat1' (first|exact dG.ke|exact rfl)) (by iterate fail) ?_
 refine f7 (B1 (C:=bu bl (n+3)) (h:=h.set 5 .gone) (t:=t) (bs:=h.length) (f:=eM) (g:=fun r=>V.int (r.first:Nat)) (k:=8) (elt:=.item (.loc 8) (.const (.int 1))) (P:=fun ag=>True) (fun ag ag ag=>trivial) (fun r lo ag ar=>hj (aP ar) a9 rfl) D.rs (B2 ans mz J J J J J J D.en) (by exact iO rfl) trivial) fun lo1 ay=>?_;rw[show(D.rs.map fun r=>V.int (r.first:Nat))=(D.rs.map fun r=>((r.first:Nat):Int)).map V.int by erw[jP];rfl]at ay;refine dT (fo (bH (aP rfl) (bH (BO rfl (aP rfl) dG.rs fr ay) (bH (aP rfl) cV))) ai) ?_;obtain⟨Xe,au⟩:=B1 (C:=bu bl (n+3)) (h:=h) (t:=t) (bs:=h.length) (f:=eM) (g:=fun r=>V.int ((D.en:Int)-1-(r.last:Nat))) (k:=8) (elt:=.bin .sub (.bin .sub (.loc 4) (.const (.int 1))) (.item (.loc 8) (.const (.int 2)))) (P:=fun lo=>lo[4]? =I (I (.v (.int D.en)))) (fun lo x ar=>by erw[aaq (by decide)];exact ar) (fun r lo ba ar=>oB (oB (aP ba) a9) (hj (aP ar) a9 rfl)) D.rs.reverse (B2 ans mz (I (.v (.lst (idx.map fun i=>V.int (i:Nat))))) J J J J J D.en) (by exact iO rfl) rfl;rw[show(D.rs.reverse.map fun r=>V.int ((D.en:Int)-1-(r.last:Nat)))=(D.rs.reverse.map fun r=>(D.en:Int)-1-(r.last:Nat)).map V.int by erw[jP];rfl,iv]at au;refine dT (fo (bH (aP rfl) (bH (ri (hk (pU (aP rfl) (eo (gV dG.rs) rfl) fr) rfl (by erw[ff];exact fr)) au) (bH (aP rfl) cV))) l7) ?_;refine ij (d:=(ks (.lst (idx.map fun i=>V.int (i:Nat)))||ks (.lst (jK.map fun i=>V.int (i:Nat))))) (rg (tB (aP rfl)) (tB (aP rfl))) rfl rfl ?_
 refine dT (fo (bH (aP rfl) (bH (aP rfl) cV)) ah) ?_;obtain⟨abm,bo⟩:=B1 (C:=bu bl (n+3)) (h:=h) (t:=t) (bs:=h.length) (f:=fun i:Nat=>V.int (i:Nat)) (g:=fun i=>V.int ((D.rs.length:Int)-1-(i:Nat))) (k:=8) (elt:=.bin .sub (.bin .sub (.bi .len (.cons (.loc 3) .nil)) (.const (.int 1))) (.loc 8)) (P:=fun lo=>lo[3]? =I (I (.cell 5))) (fun lo x ar=>by erw[aaq (by decide)];exact ar) (fun r lo ba ar=>oB (oB (fY (bH (aP ba) cV) (hlen lo)) a9) (aP ar)) jK.reverse (B2 ans mz (I (.v (.lst (idx.map fun i=>V.int (i:Nat))))) (I (.v (.lst (jK.map fun i=>V.int (i:Nat))))) (I (.v (.int (D.cost J 2 (idx++[D.rs.length]))))) J J J D.en) (by exact iO rfl) rfl;have hm:(jK.reverse.map fun i=>V.int ((D.rs.length:Int)-1-(i:Nat)))=(jK.reverse.map fun i=>D.rs.length-1-i).map fun b=>V.int (b:Nat):=by erw[jP];refine nO fun i aw=>?_;have:=al.dz.i i (lV.mp aw);rw[bF,ff]at this;show V.int _=V.int ((D.rs.length-1-i:Nat):Int);erw[show((D.rs.length-1-i:Nat):Int)=(D.rs.length:Int)-1-i by exact Dt ‹_›]
 rw[hm,iv]at bo;refine hY (lz (wu (aP rfl)) (mn (aP rfl) (fo (bH (aP rfl) (bH (ri (hk (pU (aP rfl) rfl (fZ (by assumption) (by first|decide|lia))) rfl (dO (by erw[ff,bF];exact cz ‹_› rfl))) bo) cV)) iY))) ?_
 exact dN (by erw[al.e,decide_eq_true rfl];rfl)
end
noncomputable abbrev Xj:bD:=bD.cons (c8.ret (((ao.bi gB.len (az.cons (ao.loc 20) az.nil)).cmp bk.eq (ao.bi gB.len (az.cons (ao.loc 21) az.nil))).and (ao.call 53 (az.cons (ao.loc 12) (az.cons (ao.loc 20) (az.cons (ao.loc 21) az.nil)))))) bD.nil
noncomputable abbrev Xk:bD:=bD.cons (c8.ite (((ao.loc 20).cmp bk.is (ao.const V.bB)).or ((ao.loc 21).cmp bk.is (ao.const V.bB))) (bD.cons (c8.ret (((ao.loc 20).cmp bk.is (ao.const V.bB)).and (((ao.loc 21).cmp bk.is (ao.const V.bB)).and (ao.loc 9).not))) bD.nil) bD.nil) Xj
noncomputable abbrev Xl:bD:=bD.cons (c8.ite ((ao.loc 8).cmp bk.eq (ao.const (V.int 0))) (bD.cons (c8.ret (((ao.loc 20).cmp bk.eq (ao.loc 18)).and ((ao.loc 21).cmp bk.eq (ao.loc 19)))) bD.nil) bD.nil) Xk
noncomputable abbrev Xm:bD:=bD.cons (c8.jU (dI.cons (dS.loc 20) (dI.cons (dS.loc 21) dI.nil)) (az.cons (ao.call 51 (az.cons (ao.loc 12) (az.cons (ao.loc 15) (az.cons (ao.loc 7) (az.cons (ao.loc 9) az.nil))))) (az.cons (ao.call 51 (az.cons (ao.loc 12) (az.cons (ao.loc 16) (az.cons (ao.loc 17) (az.cons (ao.loc 9) az.nil))))) az.nil))) Xl
noncomputable abbrev Xn:bD:=bD.cons (c8.jU (dI.cons (dS.attr (ao.loc 7) 37) (dI.cons (dS.attr (ao.loc 17) 37) dI.nil)) (az.cons (ao.loc 8) (az.cons (ao.loc 8) az.nil))) Xm
noncomputable abbrev Xo:bD:=bD.cons (c8.ite (((ao.loc 8).cmp bk.eq (ao.const (V.int 0))).and (ao.loc 9).not) (bD.cons (c8.ret (ao.const (V.bool true))) bD.nil) bD.nil) Xn
noncomputable abbrev Xp:bD:=bD.cons (c8.ite (ao.call 53 (az.cons (ao.loc 12) (az.cons (ao.loc 18) (az.cons (ao.loc 19) az.nil)))).not (bD.cons (c8.ret (ao.const (V.bool false))) bD.nil) bD.nil) Xo
noncomputable abbrev Xq:bD:=bD.cons (c8.ite (((ao.loc 18).cmp bk.is (ao.const V.bB)).or ((ao.loc 19).cmp bk.is (ao.const V.bB))) (bD.cons (c8.ret (((ao.loc 18).cmp bk.is (ao.const V.bB)).and ((ao.loc 19).cmp bk.is (ao.const V.bB)))) bD.nil) bD.nil) Xp
noncomputable abbrev JT:bD:=bD.cons (c8.jU (dI.cons (dS.loc 18) (dI.cons (dS.loc 19) dI.nil)) (az.cons (ao.call 51 (az.cons (ao.loc 12) (az.cons (ao.loc 15) (az.cons (ao.loc 7) (az.cons (ao.const (V.bool false)) az.nil))))) (az.cons (ao.call 51 (az.cons (ao.loc 12) (az.cons (ao.loc 16) (az.cons (ao.loc 17) (az.cons (ao.const (V.bool false)) az.nil))))) az.nil))) Xq
noncomputable abbrev Xr:bD:=bD.cons (c8.assign (dS.loc 17) (ao.call 41 (az.cons (ao.loc 7) az.nil))) JT
noncomputable abbrev Xs:bD:=bD.cons (c8.assign (dS.loc 16) (((((ao.loc 22).attr 6).cmp bk.eq (ao.const (V.int 8))).k2 (ao.new 5 (az.cons ((ao.loc 22).attr 19).rev (az.cons ((ao.loc 22).attr 18).rev (az.cons ((ao.loc 22).attr 20).rev az.nil)))) (ao.loc 22)).comp (cJ.one 22) (Src.of (ao.loc 15).rev))) Xr
noncomputable abbrev Xu:bD:=bD.cons (c8.assign (dS.item (ao.loc 12) (ao.const (V.str 60))) (ao.bi gB.len (az.cons (ao.loc 15) az.nil))) Xs
noncomputable abbrev JU:bD:=bD.cons (c8.assign (dS.loc 15) (ao.bin jT.add ((ao.loc 12).item (ao.const (V.str 54))) ((ao.loc 11).item (ao.const (V.int 1))))) Xu
noncomputable abbrev JV:bD:=bD.cons (c8.mK (cJ.one 14) (Src.range (ao.loc 2)) (bD.cons (c8.ite ((ao.loc 14).cmp bk.gt (ao.const (V.int 0))) (bD.cons (c8.expr (ao.call 46 (az.cons (ao.loc 1) (az.cons (ao.loc 12) (az.cons (ao.loc 7) az.nil))))) bD.nil) bD.nil) (bD.cons (c8.expr (ao.call 43 (az.cons (ao.loc 1) (az.cons (ao.loc 12) az.nil)))) bD.nil))) JU
noncomputable abbrev Xv:bD:=bD.cons (c8.mK (cJ.one 13) (Src.of (ao.tup (az.cons ((ao.loc 7).attr 39) (az.cons ((ao.loc 7).attr 40) az.nil)))) (bD.cons (c8.expr (((ao.loc 12).item (ao.const (V.str 49))).append (ao.tup (az.cons ((ao.loc 13).attr 1) (az.cons ((ao.loc 13).attr 2) (az.cons ((ao.loc 13).attr 3) (az.cons ((ao.loc 13).attr 4) az.nil))))))) bD.nil)) JV
noncomputable abbrev Xw:bD:=bD.cons (c8.jU (dI.cons (dS.item (ao.loc 12) (ao.const (V.str 48))) (dI.cons (dS.item (ao.loc 12) (ao.const (V.str 59))) (dI.cons (dS.item (ao.loc 12) (ao.const (V.str 49))) dI.nil))) (az.cons (ao.loc 4) (az.cons (ao.loc 5) (az.cons (ao.jm (az.cons (ao.tup (az.cons (ao.const (V.int 0)) (az.cons (ao.loc 5) (az.cons (ao.const (V.int 0)) (az.cons (ao.const (V.int 0)) az.nil))))) az.nil)) az.nil)))) Xv
noncomputable abbrev Xx:bD:=bD.cons (c8.assign (dS.loc 12) (ao.e9 [54,55,56,27,57,58,46] (az.cons ((ao.loc 10).item (ao.const (V.int 1))).pb (az.cons (ao.jm az.nil) (az.cons (ao.jm az.nil) (az.cons (ao.jm az.nil) (az.cons (ao.tup (az.cons ((ao.loc 10).item (ao.const (V.int 0))) (az.cons ((ao.loc 11).item (ao.const (V.int 0))) az.nil))) (az.cons (ao.loc 3) (az.cons (ao.loc 7) az.nil))))))))) Xw
noncomputable abbrev Xy:bD:=bD.cons (c8.jU (dI.cons (dS.loc 10) (dI.cons (dS.loc 11) dI.nil)) (az.cons (ao.call 42 (az.cons ((ao.loc 6).item (ao.const (V.int 0))) az.nil)) (az.cons (ao.call 42 (az.cons ((ao.loc 6).item (ao.const (V.int 1))) az.nil)) az.nil))) Xx
noncomputable abbrev Xz:bD:=bD.cons (c8.assign (dS.tup (dI.cons (dS.loc 8) (dI.cons (dS.loc 9) dI.nil))) ((ao.lst (az.cons (ao.tup (az.cons (ao.const (V.int 0)) (az.cons (ao.const (V.bool true)) az.nil))) (az.cons (ao.tup (az.cons (ao.const (V.int 1)) (az.cons (ao.const (V.bool true)) az.nil))) (az.cons (ao.tup (az.cons (ao.const (V.int 0)) (az.cons (ao.const (V.bool false)) az.nil))) (az.cons (ao.tup (az.cons (ao.const (V.int 1)) (az.cons (ao.const (V.bool false)) az.nil))) (az.cons (ao.tup (az.cons (ao.const (V.int 2)) (az.cons (ao.const (V.bool true)) az.nil))) (az.cons (ao.tup (az.cons (ao.const (V.int 0)) (az.cons (ao.const (V.bool false)) az.nil))) (az.cons (ao.tup (az.cons (ao.const (V.int 1)).neg (az.cons (ao.const (V.bool true)) az.nil))) (az.cons (ao.tup (az.cons (ao.const (V.int 1)).neg (az.cons (ao.const (V.bool false)) az.nil))) az.nil))))))))).item (ao.call 39 (az.cons (ao.loc 1) (az.cons (ao.const (V.int 8)) az.nil))))) Xy
noncomputable abbrev XA:bD:=bD.cons (c8.assign (dS.loc 7) (ao.call 40 (az.cons (ao.loc 1) (az.cons ((ao.loc 6).cmp bk.eq (ao.tup (az.cons (ao.const (V.int 1)) (az.cons (ao.const (V.int 1)) az.nil)))) az.nil)))) Xz
noncomputable abbrev XB:bD:=bD.cons (c8.jU (dI.cons (dS.loc 5) (dI.cons (dS.loc 6) dI.nil)) (az.cons ((ao.lst (az.cons (ao.const (V.int 0)) (az.cons (ao.const (V.int 0)) (az.cons (ao.const (V.int 20)) az.nil)))).item (ao.call 39 (az.cons (ao.loc 1) (az.cons (ao.const (V.int 3)) az.nil)))) (az.cons ((ao.lst (az.cons (ao.tup (az.cons (ao.const (V.int 0)) (az.cons (ao.const (V.int 0)) az.nil))) (az.cons (ao.tup (az.cons (ao.const (V.int 1)) (az.cons (ao.const (V.int 1)) az.nil))) (az.cons (ao.tup (az.cons (ao.const (V.int 0)) (az.cons (ao.const (V.int 1)) az.nil))) (az.cons (ao.tup (az.cons (ao.const (V.int 1)) (az.cons (ao.const (V.int 1)) az.nil))) (az.cons (ao.tup (az.cons (ao.const (V.int 2)) (az.cons (ao.const (V.int 1)) az.nil))) (az.cons (ao.tup (az.cons (ao.const (V.int 0)) (az.cons (ao.const (V.int 2)) az.nil))) az.nil))))))).item (ao.call 39 (az.cons (ao.loc 1) (az.cons (ao.const (V.int 6)) az.nil)))) az.nil))) XA
noncomputable abbrev XC:bD:=bD.cons (c8.jU (dI.cons (dS.loc 3) (dI.cons (dS.loc 4) dI.nil)) (az.cons (ao.bin jT.add (ao.const (V.int 36)) (ao.call 39 (az.cons (ao.loc 1) (az.cons (ao.const (V.int 40)) az.nil)))) (az.cons ((ao.lst (az.cons (ao.const (V.int 1000)) (az.cons (ao.const (V.int 10000)) (az.cons (ao.const (V.int 12000)) (az.cons (ao.const (V.int 200)) (az.cons (ao.const (V.int 10000)) az.nil)))))).item (ao.call 39 (az.cons (ao.loc 1) (az.cons (ao.const (V.int 5)) az.nil)))) az.nil))) XB
noncomputable abbrev XD:bD:=bD.cons (c8.assign (dS.loc 2) ((ao.lst (az.cons (ao.const (V.int 3)) (az.cons (ao.const (V.int 5)) (az.cons (ao.const (V.int 4)) (az.cons (ao.const (V.int 5)) (az.cons (ao.const (V.int 3)) az.nil)))))).item (ao.call 39 (az.cons (ao.loc 1) (az.cons (ao.const (V.int 5)) az.nil))))) XC
noncomputable abbrev XE:bD:=bD.cons (c8.assign (dS.loc 1) (ao.call 38 (az.cons (ao.loc 0) az.nil))) XD
theorem XF:body 54=XE:=by
 conv=>(lhs;reduce;(try simp only[Int.reduceOfNat,Int.reduceNegSucc]))
section
variable{n t:Nat}{h:List Cell}
noncomputable def SL(S:cj)(L:Int):cj:=⟨S.cS,S.hp,S.dV,S.cu,L,S.ls,S.rs⟩
noncomputable def bX.to(D:bX)(L:Int):bX:={D with S:=SL D.S L}
def eZ(D:bX)(af:List aI)(S:cj)(last:Bool):Option (List Nat):=hF (kb af S 0 0 D.T.z D.T.most D.T.x last).par last S.loose
def lG(af:List aI)(hp:Int)(p:List Nat):List Int:=(p.map fun s=>(nodes af (b6 hp af) s).p).reverse
theorem rB{af:List aI}{hp:Int}{p:List Nat}:ru (nodes af (b6 hp af)) (I p)= .lst ((lG af hp p).map .int):=by delta ru lG;erw[iv,jP];rfl
structure B3(D:bX)(af a7:List aI)(L:Int)(p dp:List Nat):Prop where
 l:L≠0→p.length=dp.length
 e:∃idx jK,JS (D.to L) (lG af D.S.hp p) (lG a7 D.S.hp dp) idx jK
structure B4(D:bX)(af a7:List aI):Prop where
 ok:∀L,Num L→p5 af (SL D.S L) D.T.z D.T.most D.T.x
 AO:∀L,Num L→p5 a7 (SL D.S.ex L) D.T.z D.T.most D.T.x
 bB:∀L,eZ D af (SL D.S L) false=J↔eZ D a7 (SL D.S.ex L) false=J
 last:∀L,eZ D af (SL D.S 0) false≠ .none→eZ D af (SL D.S L) true≠ .none∧eZ D a7 (SL D.S.ex L) true≠ .none
 same:eZ D af (SL D.S 0) false≠ .none→eZ D af (SL D.S 0) true=eZ D af (SL D.S 0) false∧eZ D a7 (SL D.S.ex 0) true=eZ D a7 (SL D.S.ex 0) false
 alike:∀L last p dp,eZ D af (SL D.S 0) false≠ .none→eZ D af (SL D.S L) last=I p→eZ D a7 (SL D.S.ex L) last=I dp→B3 D af a7 L p dp
 len:∀L last p,eZ D af (SL D.S L) last=I p→p.length≤1000
 XG:∀L last p,eZ D a7 (SL D.S.ex L) last=I p→p.length≤1000
abbrev w5(r:R)(st:St):Prop:=∃o,Out false [] o r st∧∃h t,o=(.v (.bool true),h,t)
theorem t4{lo:List (Option X)}{H:List Cell}{t:Nat}{b:Bool}(ae:b=true):w5 (.ret (.v (.bool b))) ⟨lo,H,t,0⟩:=by subst ae;exact⟨_,Jk (h:=[]) (h':=[]) (e:=H) rfl,_,_,rfl⟩
theorem oT{C:Calls}{st:St}{k:Nat}(h:st.loc[k]? =I (I (.v .bB))):aj C (.cmp (.loc k) .is (.const .bB)) st=I (.v (.bool true),st):=tB (u:=.bB) (aP h)
theorem w6{C:Calls}{st:St}{k:Nat}{xs:List V}(h:st.loc[k]? =I (I (.v (.lst xs)))):aj C (.cmp (.loc k) .is (.const .bB)) st=I (.v (.bool false),st):=tB (u:=.lst xs) (aP h)
noncomputable abbrev jL(D:bX)(p:eg)(nd:List V)(L:Int):List Cell:=[eE p,(SL D.S L).cell,.lst nd,.lst (D.ws.map .int),.lst (D.gs.map lF),.lst (D.rs.map eM),.e9 (rz D),.lst (D.gr.map b7),(SL D.S.ex L).cell]
theorem XH(D:bX)(p:eg)(nd:List V)(L:Int):oQ (D.to L) (jL D p nd L):=⟨rfl,rfl,rfl,rfl,rfl,rfl⟩
abbrev XI(af a7:List aI)(x0 x2 x3 x4 x5 x6 x10 x11 x13 x14 x18 x19 x20 x21 x22 x23 x24:Option X)(L:Int)(last:Bool):List (Option X):=[x0,I (.cell 0),x2,x3,x4,x5,x6,I (.cell 1),I (.v (.int L)),I (.v (.bool last)),x10,x11,I (.cell 6),x13,x14,I (.v (.lst (af.map enc))),I (.v (.lst (a7.map enc))),I (.cell 8),x18,x19,x20,x21,x22,x23,x24]
set_option maxHeartbeats 2000000 in
theorem XJ{D:bX}{af a7:List aI}{p:eg}{nd:List V}{L:Int}{last:Bool}{x0 x2 x3 x4 x5 x6 x10 x11 x13 x14 x18 x19 x20 x21 x22 x23 x24:Option X}(M:B4 D af a7)(ok:iL D)(fM:tT D.S)(hp:∀i,Num (D.row i).b9)(cv:Num L):
  Wp w5 (bI (bu bl (n+6)) JT ⟨XI af a7 x0 x2 x3 x4 x5 x6 x10 x11 x13 x14 x18 x19 x20 x21 x22 x23 x24 L last,jL D p nd 0,t,0⟩):=by
 have eW:Num 0:=⟨by decide,by decide⟩
 have XK:∀L,iL (D.to L):=fun L=>⟨ok.w,ok.oz,ok.r,ok.b3,ok.g,ok.a4,ok.dh,ok.pr,ok.eI,ok.ay,ok.aT,ok.aM,ok.gr,ok.qa⟩;have XM:0≤D.S.cS∧D.S.cS≤100:=⟨fM.BC,fM.Jl⟩
 have a1:∀{t:Nat} (L:Int) (last:Bool),Num L→bu bl (n+6) 51 [.cell 6,.v (.lst (af.map enc)),.cell 1,.v (.bool last)] (jL D p nd L) t (jL D p nd L).length=I (.v (ru (nodes af (b6 D.S.hp af)) (eZ D af (SL D.S L) last)),jL D p nd L,t):=fun{t} L last cv=>JQ (D:=D) (S:=SL D.S L) rfl rfl (M.ok L cv);have a2:∀{t:Nat} (L:Int) (last:Bool),Num L→bu bl (n+6) 51 [.cell 6,.v (.lst (a7.map enc)),.cell 8,.v (.bool last)] (jL D p nd L) t (jL D p nd L).length=I (.v (ru (nodes a7 (b6 D.S.hp a7)) (eZ D a7 (SL D.S.ex L) last)),jL D p nd L,t):=fun{t} L last cv=>JQ (D:=D) (S:=SL D.S.ex L) rfl rfl (M.AO L cv);have w7:∀{af:List aI} {hp:Int} {p:List Nat},(lG af hp p).length=p.length:=fun{_ ag _}=>by unfold lG;erw[ff,bF]
 have al:∀{t:Nat} (L:Int) (last:Bool) (cL ck:List Nat),eZ D af (SL D.S 0) false≠none→eZ D af (SL D.S L) last=I cL→eZ D a7 (SL D.S.ex L) last=I ck→bu bl (n+6) 53 [.cell 6,.v (.lst ((lG af D.S.hp cL).map .int)),.v (.lst ((lG a7 D.S.hp ck).map .int))] (jL D p nd L) t (jL D p nd L).length=I (.v (.bool true),jL D p nd L,t):=fun{t} L last cL ck h0 aa ab=>
  by obtain⟨_,_,_,e⟩:=M.alike L last cL ck h0 aa ab;exact Xf (n:=n+2) (XH D p nd L) (XK L) XM hp e
 refine hl (by repeat1' (first|exact a1 0 false eW|exact a2 0 false eW)) (by iterate fail) ?_
 cases ah:eZ D af (SL D.S 0) false with
 |none=>have iY:=(M.bB 0).mp ah;erw[iY];refine ij (d:=true) (rg (p:=true) (q:=true) (oT rfl) (oT rfl)) rfl rfl ?_;exact hY (lz (oT rfl) (oT rfl)) (t4 rfl)
 |some cL=>
 have h0:eZ D af (SL D.S 0) false≠J:=by erw[ah];exact fun h=>nomatch h
 cases iY:eZ D a7 (SL D.S.ex 0) false with
 |none=>exact absurd ((M.bB 0).mpr iY) h0
 |some ck=>
 erw[rB,rB];refine ij (d:=false) (rg (p:=false) (q:=false) (w6 rfl) (w6 rfl)) rfl rfl ?_;refine ij (d:=false) (wq (p:=true) (fo (bH (aP rfl) (bH (aP rfl) (bH (aP rfl) cV))) (al 0 false cL ck h0 ah iY))) rfl rfl ?_;refine ij (d:=U (L=0)&& !last) (lz (mn (aP rfl) a9) (wq (aP rfl))) rfl rfl ?_;refine n3 (fun aa=>hY a9 (t4 rfl)) fun aa=>?_;refine hl (st1:=⟨_,jL D p nd 0,t,0⟩) (l:=[.v (.int L),.v (.int L)]) (bH (aP rfl) (bH (aP rfl) cV)) (st2:=⟨_,jL D p nd L,t,0⟩) (Bb (aP rfl) rfl rfl (Bb (aP rfl) rfl rfl rl)) ?_;refine hl (by repeat1' (first|exact a1 L last cv|exact a2 L last cv)) (by iterate fail) ?_
 refine ij (d:=U (L=0)) (mn (aP rfl) a9) rfl rfl ?_;refine n3 (fun ab=>?_) fun ab=>?_
 ·have XN:=of_decide_eq_true ab;subst XN;have B5:last=true:=by
   induction last using hL with
   |true=>rfl
   |false=>injections aa
  subst B5;refine bC (fun ay au=>?_) (M.same h0);erw[ay,au,ah,iY,rB,rB];exact hY (lz (hW (aP rfl) (aP rfl) B0) (hW (aP rfl) (aP rfl) B0)) (t4 rfl)
 ·cases hd:eZ D af (SL D.S L) last with
  |none=>
   have B5:last=false:=by
    induction last using hL with
    |false=>rfl
    |true=>exact absurd hd (M.last L h0).1
   subst B5;erw[(M.bB L).mp hd];refine ij (d:=true) (rg (p:=true) (q:=true) (oT rfl) (oT rfl)) rfl rfl ?_;exact hY (lz (oT rfl) (lz (oT rfl) (wq (aP rfl)))) (t4 rfl)
  |some eu=>
  cases lg:eZ D a7 (SL D.S.ex L) last with
  |none=>
   induction last using hL with
   |true=>exact absurd lg (M.last L h0).2
   |false=>rw[(M.bB L).mpr lg]at hd;injections hd
  |some gc=>
  erw[rB,rB];refine ij (d:=false) (rg (p:=false) (q:=false) (w6 rfl) (w6 rfl)) rfl rfl ?_;refine hY (lz (mn (fY (bH (aP rfl) cV) (j6 (dO ?_))) (fY (bH (aP rfl) cV) (j6 (dO ?_)))) (fo (bH (aP rfl) (bH (aP rfl) (bH (aP rfl) cV))) (al L last eu gc h0 hd lg))) (t4 ?_)
  ·erw[bF,w7];have:=M.len L last eu hd;exact cz ‹_› rfl
  ·erw[bF,w7];have:=M.XG L last gc lg;exact cz ‹_› rfl
  ·erw[bF,bF,w7,w7,((M.alike L last eu gc h0 hd lg).l (of_decide_eq_false ab)),decide_eq_true rfl];rfl
end
section
variable{n t:Nat}{h:List Cell}
inductive f5:aI→aI→Prop where
 |same (it:aI) (h:lC it=false):f5 it it
 |cf (t t':Nat) (a b m:i9):f5 (.cf t a b m) (.cf t' b.reverse a.reverse m.reverse)
noncomputable abbrev XO:ao:=.k2 (.cmp (.attr (.loc 22) 6) .eq (.const (.int 8))) (.new 5 (.cons (.rev (.attr (.loc 22) 19)) (.cons (.rev (.attr (.loc 22) 18)) (.cons (.rev (.attr (.loc 22) 20)) .nil)))) (.loc 22)
theorem XQ{bs:Nat}:∀(l:List aI) (lo:List (Option X)) (t:Nat),22<lo.length→(∀it,it∈l→pZ it)→∃dX a7 t',fh (.one 22) (fun st=>I (true,st)) (fun st=>gN (aj (bu bl (n+2)) XO st)) (l.map enc) ⟨lo,h,t,bs⟩=I (a7.map enc,⟨dX,h,t',bs⟩)∧dn f5 l a7:=by
 intro aT
 induction aT with
 |nil=>intro lo t _ _;exact⟨lo,[],t,rfl,.nil⟩
 |cons it r aD=>
  intro lo t ai aw;have aK:(lo.set 22 (I (X.v (enc it))))[22]? =I (I (.v (enc it))):=by erw[xW ai]
  have l7:22<(lo.set 22 (I (X.v (enc it)))).length:=by erw[kl];exact ai
  have av:=fun x aC=>aw x (List.Mem.tail it aC);cases hd:lC it with
  |false=>
   obtain⟨dX,a7,t',e,m⟩:=aD (lo.set 22 (I (.v (enc it)))) t l7 av;have Ab:U (IL it=8)=false:=by cases it<;>first|rfl|cases hd
   exact⟨dX,it::a7,t',rj fD (jB (p:=false) (by erw[←Ab];exact mn (tI (aP aK)) a9) (fun h=>nomatch h) (fun ag=>aP aK)) e,.cons (.same it hd) m⟩
  |true=>
   cases it with
   |cf t0 a b fG=>
    obtain⟨dX,a7,t',e,m⟩:=aD (lo.set 22 (I (.v (enc (.cf t0 a b fG))))) (t+1) l7 av;have hit:=aw _ (.head _);have aC:dq (bu bl (n+2)) (.cons (.rev (.attr (.loc 22) 19)) (.cons (.rev (.attr (.loc 22) 18)) (.cons (.rev (.attr (.loc 22) 20)) .nil))) ⟨lo.set 22 (I (.v (enc (.cf t0 a b fG)))),h,t,bs⟩=I ([.v (.lst (b.reverse.map fv)),.v (.lst (a.reverse.map fv)),.v (.lst (fG.reverse.map fv))],⟨lo.set 22 (I (.v (enc (.cf t0 a b fG)))),h,t,bs⟩):=by erw[iv,iv,iv];exact bH (pU (hi (aP aK) rfl) rfl (nk hit.2.1)) (bH (pU (hi (aP aK) rfl) rfl (nk hit.1)) (bH (pU (hi (aP aK) rfl) rfl (nk hit.2.2)) cV))
    refine⟨dX,.cf t b.reverse a.reverse fG.reverse::a7,t',rj fD (jB (p:=true) (mn (tI (it:=.cf t0 a b fG) (aP aK)) a9) (fun ag=>Jr aC ?_ ?_ ?_) (fun h=>nomatch h)) e,.cons (.cf t0 t a b fG) m⟩
    ·erw[ff];exact hit.2.1
    ·erw[ff];exact hit.1
    ·erw[ff];exact hit.2.2
   |_=>injections hd
inductive Lay(hp:Int)(bp:List aI):List aI→List Int→List (List bb)→List Row→Prop where
 |one {fw:List aI} {wv:Int} (w:kO fw wv):Lay hp bp (bp++fw) [wv] [] []
 |more {af dK fw:List aI} {ws:List Int} {wv:Int} {gs:List (List bb)} {eN:List bb} {rs rw:List Row} (l:Lay hp bp af ws gs rs) (g:jI hp gs.length af.length dK eN rw) (w:kO fw wv):Lay hp bp ((af++dK)++fw) (ws++[wv]) (gs++[eN]) (rs++rw)
structure w8(T:Tl)(S:cj)(gr:List bb)(bp aR:List aI)(cT:Nat):Prop where
 m:∀af ws gs rs a7,Lay S.hp bp af ws gs rs→ws.length=cT→dn f5 (af++aR).reverse a7→B4 ⟨T,S,ws,gs,rs,gr,(af++aR).length⟩ (af++aR) a7
 ok:∀af ws gs rs,Lay S.hp bp af ws gs rs→ws.length=cT→iL ⟨T,S,ws,gs,rs,gr,(af++aR).length⟩
 b9:∀af ws gs rs,Lay S.hp bp af ws gs rs→∀r,r∈rs→Num r.b9
 it:∀af ws gs rs,Lay S.hp bp af ws gs rs→∀it,it∈af++aR→pZ it
 ay:aR.length≤2
abbrev rC(x0 x2 x3 x4 x5 x6 x10 x13 x14:Option X)(ay:List bb)(aR:List aI)(L:Int)(last:Bool):List (Option X):=[x0,I (.cell 0),x2,x3,x4,x5,x6,I (.cell 1),I (.v (.int L)),I (.v (.bool last)),x10,I (.v (.tup [.lst (ay.map b7),.lst (aR.map enc)])),I (.cell 6),x13,x14,J,J,J,J,J,J,J,J,J,J]
theorem XR{T:Tl}{S:cj}{gr:List bb}{bp aR af:List aI}{ws:List Int}{gs:List (List bb)}{rs:List Row}{cT:Nat}{p:eg}{L:Int}{last:Bool}{x0 x2 x3 x4 x5 x6 x10 x13 x14:Option X}(M:w8 T S gr bp aR cT)(l:Lay S.hp bp af ws gs rs)(aA:ws.length=cT)(fM:tT S)(cv:Num L)(ar:af.length≤80):
  Wp w5 (bI (bu bl (n+6)) JU ⟨rC x0 x2 x3 x4 x5 x6 x10 x13 x14 T.ay aR L last,av p S.cell (af.map enc) (ws.map .int) (gs.map lF) (rs.map eM) (dk T) (gr.map b7) [],t,0⟩):=by
 have Fq:=M.ay;have hf:fit ((af.map enc).length+(aR.map enc).length)=true:=dO (by erw[bF,bF];exact kp ‹_› ‹_› rfl);have hlen:(af++aR).length≤82:=by erw[b4];exact kp ‹_› ‹_› rfl
 have B6:fit ((af++aR).map enc).length=true:=fZ (by assumption) (by first|decide|lia)
 have XS:aj (bu bl (n+6)) (.bin .add (.item (.loc 12) (.const (.str 54))) (.item (.loc 11) (.const (.int 1)))) ⟨rC x0 x2 x3 x4 x5 x6 x10 x13 x14 T.ay aR L last,av p S.cell (af.map enc) (ws.map .int) (gs.map lF) (rs.map eM) (dk T) (gr.map b7) [],t,0⟩=I (.v (.lst ((af++aR).map enc)),⟨rC x0 x2 x3 x4 x5 x6 x10 x13 x14 T.ay aR L last,av p S.cell (af.map enc) (ws.map .int) (gs.map lF) (rs.map eM) (dk T) (gr.map b7) [],t,0⟩):=by erw[fy];exact j4 (u:=.lst (af.map enc)) (v:=.lst (aR.map enc)) (gy (aP rfl) a9 rfl rfl) (hj (aP rfl) a9 rfl) rfl rfl (if_pos hf)
 refine dT XS ?_;have XT:SL S 0=S:=by have:=fM.lo;cases S;show cj.mk _ _ _ _ _ _ _=_;erw[show(0:Int)=_ from this.symm]
 refine A9 (cl':=.e9 (rz ⟨T,S,ws,gs,rs,gr,(af++aR).length⟩)) (fY (bH (aP rfl) cV) (j6 B6)) (aP rfl) a9 rfl (by erw[bF];rfl) ?_;obtain⟨dX,a7,t',e,m⟩:=XQ (n:=n+4) (h:=av p S.cell (af.map enc) (ws.map .int) (gs.map lF) (rs.map eM) (rz ⟨T,S,ws,gs,rs,gr,(af++aR).length⟩) (gr.map b7) []) (bs:=0) (af++aR).reverse ((rC x0 x2 x3 x4 x5 x6 x10 x13 x14 T.ay aR L last).set 15 (I (.v (.lst ((af++aR).map enc))))) t (iO rfl) (fun it aw=>M.it af ws gs rs l it (lV.mp aw));rw[iv]at e;refine dT (ri (hk (pU (aP rfl) rfl B6) rfl (by erw[ff];exact B6)) e) ?_;refine dT (fo (bH (aP rfl) cV) (Wc (n:=n+1) (t:=t') (S:=S) (s:=1) (h:=av p S.cell (af.map enc) (ws.map .int) (gs.map lF) (rs.map eM) (rz ⟨T,S,ws,gs,rs,gr,(af++aR).length⟩) (gr.map b7) []) rfl)) ?_;have:=XJ (n:=n) (t:=t') (D:=⟨T,S,ws,gs,rs,gr,(af++aR).length⟩) (af:=af++aR) (a7:=a7) (p:=p) (nd:=af.map enc) (L:=L) (last:=last) (x0:=x0) (x2:=x2) (x3:=x3) (x4:=x4) (x5:=x5) (x6:=x6) (x10:=x10) (x11:=I (.v (.tup [.lst (T.ay.map b7),.lst (aR.map enc)]))) (x13:=x13) (x14:=x14) (x18:=J) (x19:=J) (x20:=J) (x21:=J) (x22:=J) (x23:=J) (x24:=J) (M.m af ws gs rs a7 l aA m) (M.ok af ws gs rs l aA) fM (fun i=>?_) cv
 ·unfold jL at this;rw[XT]at this;exact this
 ·unfold bX.row;cases aE:rs[i]? with
  |none=>exact⟨by decide,by decide⟩
  |some r=>exact M.b9 af ws gs rs l r (fI aE)
end
section
variable{n t:Nat}{h:List Cell}
structure XU(af:List aI)(k:Nat):Prop where
 n:af.length≤k
theorem w9{af:List aI}{w:Int}(h:kO af w):XU af 3:=by cases h<;>exact⟨by first|exact iO rfl⟩
theorem XW{gi gs len:Nat}:∀(l:List (Nat×Int)) (k:Nat),(jH gi gs len k l).length≤l.length:=by
 intro aT
 induction aT with
 |nil=>intro _;exact bE _
 |cons x r aD=>intro k;have:=aD (k+1);have:(one (U (x.2<10000)) (⟨gi,k,k,gs,gs+len,x.2,false,0,0⟩:Row)).length≤1:=wJ;erw[Jz];erw[b4,gA];exact bR (nJ this (aD (k+1))) (eQ (o2 ..))
theorem JW{hp:Int}{gi p:Nat}{af:List aI}{eN:List bb}{rws:List Row}(h:jI hp gi p af eN rws):af.length≤2∧rws.length≤2:=by
 cases h with
 |glue l aA ar aK=>rw[bF];exact⟨ar,iO rfl⟩
 |jJ l aA ar aJ=>rw[bF];exact⟨ar,bR (XW _ _) ar⟩
 |cf=>exact⟨iO rfl,bR wJ (by decide)⟩
theorem XX{hp:Int}{bp af:List aI}{ws:List Int}{gs:List (List bb)}{rs:List Row}(h:Lay hp bp af ws gs rs):0<ws.length:=by
 cases h with
 |one=>exact xZ
 |more=>erw[b4];exact ji _
inductive XY(T:Tl)(S:cj)(gr:List bb)(bp aR:List aI)(cT:Nat)(L:Int)(last:Bool)(x0 x2 x3 x4 x5 x6 x10 x13:Option X)(vs:List V)(st:St):Prop where
 |mk (k t:Nat) (p:eg) (af:List aI) (ws:List Int) (gs:List (List bb)) (rs:List Row) (x14:Option X) (ay:vs=(uB k (cT-k)).map fun i=>V.int (i:Nat)) (au:(k=0∧af=bp∧ws=[]∧gs=[]∧rs=[])∨Lay S.hp bp af ws gs rs) (ai:k≤cT) (g4:af.length≤2+5*k) (jj:ws.length=k) (qB:gs.length≤k) (qC:rs.length≤2*k) (hp:fc (13*(cT-k)) p)
  (bo:st=⟨rC x0 x2 x3 x4 x5 x6 x10 x13 x14 T.ay aR L last,av p S.cell (af.map enc) (ws.map .int) (gs.map lF) (rs.map eM) (dk T) (gr.map b7) [],t,0⟩)
theorem XZ{T:Tl}{S:cj}{gr:List bb}{bp aR:List aI}{cT:Nat}{p:eg}{L:Int}{last:Bool}{x0 x3 x4 x5 x6 x10 x13 x14:Option X}(M:w8 T S gr bp aR cT)(fM:tT S)(cv:Num L)(aa:1≤cT)(b0:cT≤5)(hS:bp.length≤2)(hp:fc (13*cT) p):
  Wp w5 (bI (bu bl (n+6)) JV ⟨rC x0 (I (.v (.int (cT:Nat)))) x3 x4 x5 x6 x10 x13 x14 T.ay aR L last,av p S.cell (bp.map enc) [] [] [] (dk T) (gr.map b7) [],t,0⟩):=by
 refine gW (wz (i:=(cT:Nat)) (aP rfl) (cC.mpr ⟨decide_eq_true (r5 rfl),decide_eq_true (uD ‹_› rfl)⟩)) ?_;erw[show gM 0 ((cT:Nat):Int)=(uB 0 (cT-0)).map fun i=>V.int (i:Nat)from BU (i:=0)];refine i7 (XY T S gr bp aR cT L last x0 (I (.v (.int (cT:Nat)))) x3 x4 x5 x6 x10 x13) ?_ ?_ _ _ (.mk 0 t p bp [] [] [] x14 rfl (.inl ⟨rfl,rfl,rfl,rfl,rfl⟩) (fx _) hS rfl (bE _) (bE _) hp rfl)
 ·rintro v vs st ⟨k,t,p,af,ws,gs,rs,x14,ay,au,ai,g4,jj,qB,qC,hp,rfl⟩;cases hm:cT-k with
  |zero=>rw[hm]at ay;injections ay
  |succ m=>
  rw[hm]at ay;obtain⟨rfl,rfl⟩:=List.cons.inj ay;have mU:m=cT-(k+1):=by exact yg ‹_›
  have zN:k+1≤cT:=L4 (rT (ji m) hm.symm);have po:∀c,c≤13→13*(cT-(k+1))+c≤13*(cT-k):=fun c ah=>by erw[hm,←mU];exact lR ah _
  refine fun Q cQ el=>⟨_,fD,?_⟩;refine ij (pT (aP rfl) a9) rfl rfl ?_
  rcases au with⟨rfl,rfl,rfl,rfl,rfl⟩|l
  ·refine Uu rfl ?_;refine eA fun cF=>?_;obtain⟨o,aO,g1⟩:=Jw (n:=n+2) (t:=t) (m:=13*(cT-1)) (p:=p) (c:=S.cell) (nd:=af.map enc) (ws:=[]) (gs:=[]) (rs:=[]) (T:=T) (g:=gr.map b7) (hp.le (po 4 (by decide))) (by erw[bF];exact cz ‹_› rfl) (fx _);obtain⟨dp,fw,wv,t',tY,hw⟩:=g1;have hf:=(w9 hw).n;refine cF ?_;refine oD (fo (bH (aP rfl) (bH (aP rfl) cV)) aO) ?_;refine gh (cQ _ _ rfl (.mk 1 t' dp (af++fw) [wv] [] [] (I (.v (.int ((0:Nat):Int)))) (by erw[mU]) (.inr (.one hw)) (gI ‹_› ‹_›) (by erw[b4];exact kp ‹_› ‹_› rfl) rfl (fx _) (fx _) tY ?_));erw[fy];rfl
  ·have zp:=jj▸XX l;refine iz (decide_eq_true (nM.mpr zp)) ?_;refine eA fun cF=>?_;obtain⟨o,aO,g1⟩:=Wo (n:=n+1) (t:=t) (m:=13*(cT-(k+1))+4) (p:=p) (S:=S) (nd:=af.map enc) (ws:=ws.map .int) (gs:=gs.map lF) (rs:=rs.map eM) (T:=T) (g:=gr.map b7) (hp.le (po 13 (bE _))) (by erw[bF];exact cz (bR ‹_› (lR (qy _ (bR ‹_› ‹_›)) _)) rfl) (by erw[bF];exact cz (bR ‹_› (bR ‹_› ‹_›)) rfl) (by erw[bF];exact cz (bR ‹_› (qy _ (bR ‹_› ‹_›))) rfl);obtain⟨cL,dK,eN,rws,t1,rx,aK⟩:=g1;rw[bF,bF]at aK;have w':=JW aK;obtain⟨cK,kD,g2⟩:=Jw (n:=n+2) (t:=t1) (m:=13*(cT-(k+1))) (p:=cL) (c:=S.cell) (nd:=af.map enc++dK.map enc) (ws:=ws.map .int) (gs:=gs.map lF++[.lst (eN.map b7)]) (rs:=rs.map eM++rws.map eM) (T:=T) (g:=gr.map b7) rx (by erw[b4,bF,bF];exact kp (bR g4 (lR (qy 5 (bR ai b0)) 2)) w'.1 rfl) (by erw[bF];exact cz (bR (eQ jj) (bR ai b0)) rfl);obtain⟨dp,fw,wv,t',tY,hw⟩:=g2;have hf:=(w9 hw).n;refine cF ?_;refine oD (fo (bH (aP rfl) (bH (aP rfl) (bH (aP rfl) cV))) aO) ?_;refine oD (fo (bH (aP rfl) (bH (aP rfl) cV)) kD) ?_;refine gh (cQ _ _ rfl (.mk (k+1) t' dp ((af++dK)++fw) (ws++[wv]) (gs++[eN]) (rs++rws) (I (.v (.int (k:Nat)))) (by erw[mU]) (.inr (.more l aK hw)) zN (by erw[b4,b4];exact show _≤((2+5*k)+2)+3 from nJ (nJ g4 w'.1) hf) (by erw[b4,jj];rfl) (by erw[b4];exact jf qB) (by erw[b4];exact nJ qC w'.2) tY ?_));simp only[fy];rfl
 ·rintro st ⟨k,t,p,af,ws,gs,rs,x14,ay,au,ai,g4,jj,qB,qC,hp,rfl⟩;cases hm:cT-k with
  |succ m=>rw[hm]at ay;injections ay
  |zero=>
  have ai:k=cT:=rU ai (Nat.le_of_sub_eq_zero hm)
  rcases au with⟨rfl,_⟩|l
  ·exact absurd (show 1≤0 from ai▸aa) (by decide)
  ·exact XR M l (jj.trans ai) fM cv (cz (bR g4 (lR (qy 5 (ai▸b0)) 2)) rfl)
end
section
variable{n t:Nat}{h:List Cell}
inductive X0(h:List Cell)(t:Nat)(x0:Option X)(vs:List V)(st:St):Prop where
 |mk (r:List Int) (a:Int) (x2 x3 x4 x5 x6:Option X) (ay:vs=r.map .int) (au:st=⟨[x0,I (.v (.int a)),x2,x3,x4,x5,x6],h,t,h.length⟩)
theorem X1{lo:List (Option X)}{xs:List V}:Out true h (.cell h.length,h++[.lst xs],t) (.ret (.cell h.length)) ⟨lo,h++[.lst xs],t,h.length⟩:=by refine⟨tH,?_⟩;show(if h.length≤h.length then((h++[Cell.lst xs])[h.length]?).bind _ else J)=_;erw[if_pos (bE _),show(h++[Cell.lst xs])[h.length]? =_ from tD];show I (X.cell h.length,(h++[Cell.lst xs]).take h.length++[Cell.lst xs],t)=_;erw[rZ]
theorem xa{C:Calls}{st:St}{k:Int}(h:0≤k∧k≤400):aj C (.bin .pow (.const (.int 10)) (.const (.int k))) st=I (.v (.int (10^k.toNat)),st):=j4 a9 a9 rfl rfl (if_pos ⟨h.1,h.2,by decide,by decide⟩)
theorem B7{k:Nat}:¬(10:Int)^k=0:=Int.ne_of_gt (Int.pow_pos (by decide))
theorem X2{ns:List Int}(aA:ns.length≤1000):∃o,bu bl (n+1) 38 [.v (.lst (ns.map .int))] h t h.length=I o∧∃a,o=(.cell h.length,h++[eE ⟨a,0⟩],t):=by
 have hf:fit (ns.map V.int).length=true:=fZ (by assumption) (by first|decide|lia)
 subst_eqs
 iterate fail
 refine gW (hk (vs:=(ns.take 24).map .int) (Uk (aP rfl) rfl hf) (by erw[List.map_take];rfl) (dO (by erw[bF];exact cz (aag ..) rfl))) ?_;refine i7 (X0 h t _) ?_ ?_ _ _ (.mk (ns.take 24) 0 _ _ _ _ _ rfl rfl)
 ·rintro v vs st ⟨r,a,x2,x3,x4,x5,x6,ay,rfl⟩
  induction r using bY with
  |nil=>injections ay
  |cons i r=>
  obtain⟨rfl,rfl⟩:=List.cons.inj ay;refine fun Q cQ el=>⟨_,fD,?_⟩;refine dT (fY (bH (aP rfl) cV) rfl) ?_;obtain⟨d,hd⟩:∃d,U (((i.natAbs:Nat):Int)<10^Int.toNat 18)=d:=⟨_,rfl⟩
  have dQ:∀{C:Calls} {st:St},st.loc[3]? =I (I (.v (.int (i.natAbs:Nat))))→aj C (.cmp (.loc 3) .lt (.bin .pow (.const (.int 10)) (.const (.int 18)))) st=I (.v (.bool d),st):=fun h=>by erw[←hd];exact wt (aP h) (xa (by decide))
  refine ij (dQ rfl) rfl rfl ?_;refine n3 (fun aa=>?_) fun aa=>?_
  ·have j0:((i.natAbs:Nat):Int)<1000000000000000000:=by subst aa;have:=of_decide_eq_true hd;rw[show Int.toNat 18=18 from rfl]at this;exact‹_›
   have nu:∀b:Int,(small (2*((i.natAbs:Nat):Int)+1+(if U (i<0)=true then 1 else 0))||small b)=true:=fun b=>by have ae:∀e:Int,0≤e→e≤1→small (2*((i.natAbs:Nat):Int)+1+e)=true:=fun e a b=>j5 (by lia) (by lia);exact Z4.mpr (.inl (Mine.eT (motive:=fun e=>small (2*((i.natAbs:Nat):Int)+1+e)=true) (fun ag=>ae 1 (by decide) (by decide)) fun ag=>ae 0 (by decide) (by decide)))
   refine dT (wm (oC (nf (nf (oC a9 (aP rfl) rfl) a9) (fY (bH (wt (aP rfl) a9) cV) rfl)) a9 (nu _)) (xa (by decide)) B7) ?_;refine dT (wm (nf (oC (aP rfl) a9 (by erw[j5 (a:=1000003) (by decide) (by decide),xT])) (aP rfl)) (xa (by decide)) B7) ?_;exact gh (cQ _ _ rfl (.mk r _ _ _ _ _ _ rfl rfl))
  ·refine dT (wm (nf (oC (aP rfl) a9 (by erw[j5 (a:=1000003) (by decide) (by decide),xT])) (aP rfl)) (xa (by decide)) B7) ?_;exact gh (cQ _ _ rfl (.mk r _ _ _ _ _ _ rfl rfl))
 ·rintro st ⟨r,a,x2,x3,x4,x5,x6,ay,rfl⟩;exact hY (ng (bA (aP rfl) (bA a9 dj)) rfl) ⟨_,X1,a,rfl⟩
end
section
variable{n t:Nat}{h:List Cell}
structure t5(T:Tl)(S:cj)(bp aR:List aI)(cT:Nat):Prop where
 da:36≤T.z
 g5:T.z≤75
 m0:200≤T.most
 hR:T.most≤12000
 x0:0≤T.x
 c2:T.x≤20
 fQ:tT S
 eI:∃t6,my T.eI t6∧bp=t6.reverse
 ay:my T.ay aR
 ad:S.cu≠0→T.eI=[⟨0,6,1,0⟩]∧T.ay=[⟨0,6,1,0⟩]
 kA:1≤cT
 JX:cT≤5
noncomputable def qd(T:Tl)(S:cj):List bb:=[⟨0,T.x,0,0⟩,S.ls,S.rs]
theorem qe{gs:List bb}{af:List aI}(h:my gs af):af.length≤2:=by cases h<;>exact iO rfl
noncomputable def JY(q:Int×Int):V:=.tup [.int q.1,.int q.2]
noncomputable def X3(q:Int×Bool):V:=.tup [.int q.1,.bool q.2]
noncomputable def JZ:List (Int×Int):=[(0,0),(1,1),(0,1),(1,1),(2,1),(0,2)]
noncomputable def t7:List (Int×Bool):=[(0,true),(1,true),(0,false),(1,false),(2,true),(0,false),(-1,true),(-1,false)]
set_option maxHeartbeats 2000000 in
theorem X4(ic:∀T S bp aR cT,t5 T S bp aR cT→w8 T S (qd T S) bp aR cT){ns:List Int}(aA:ns.length≤1000):∃o,bu bl (n+7) 54 [.v (.lst (ns.map .int))] [] t 0=I o∧∃h t,o=(.v (.bool true),h,t):=by
 show∃o,bu bl (n+7) 54 [.v (.lst (ns.map .int))] [] t ([]:List Cell).length=I o∧∃h t,o=(.v (.bool true),h,t)
 refine VY (np:=1) (ns:=25) (df:=[]) (rc:=false) (lo:=[I (.v (.lst (ns.map .int))),J,J,J,J,J,J,J,J,J,J,J,J,J,J,J,J,J,J,J,J,J,J,J,J]) (by conv=>(lhs;reduce)) XF rfl rfl ?_;obtain⟨o,aO,a,rfl⟩:=X2 (n:=n+5) (t:=t) (h:=[]) aA;refine dT (fo (bH (aP rfl) cV) aO) ?_;have hp:fc (65+6+6) ⟨a,0⟩:=⟨dZ 0,by show(0:Int)+((77:Nat):Int)≤4000000000000000000;decide⟩
 generalize (⟨a,0⟩:eg)=p at hp;have aa:=hp.bQ (k:=5);have ab:=aa.bQ (k:=40);have aq:=ab.bQ (k:=5);have ba:=aq.bQ (k:=3);have b0:=ba.bQ (k:=6);have gc:=jE (α:=Int) (Q:=fun x=>3≤x∧x≤5) (d:=0) (l:=[3,5,4,5,3]) (p:=p) (k:=5) (by decide) (by decide) (by decide);refine dT (p7 (n:=n+5) (hh:=[]) (f:=V.int) (d:=0) (l:=[3,5,4,5,3]) (k:=5) (m:=76) (hX (bA a9 (bA a9 (bA a9 (bA a9 (bA a9 dj))))) rfl) rfl hp (by decide) (by decide)) ?_;generalize pick (0:Int) [3,5,4,5,3] (tk p 5)=J0 at gc⊢;obtain⟨cT,rfl⟩:∃cT:Nat,J0=(cT:Int):=⟨J0.toNat,Dn (d0 (qq ‹_›) rfl)⟩
 have da:=oL (p:=bQ p 5) (k:=40) (by decide);have g5:=oM (p:=bQ p 5) (k:=40) (by decide);have B8:=jE (α:=Int) (Q:=fun x=>200≤x∧x≤12000) (d:=0) (l:=[1000,10000,12000,200,10000]) (p:=bQ (bQ p 5) 40) (k:=5) (by decide) (by decide) (by decide);refine hl (bH (nf a9 (fo (bH (aP rfl) (bH a9 cV)) (kc (n:=n+5) (hh:=[]) aa (k:=40) (by decide) (by decide)))) (bH (p7 (n:=n+5) (hh:=[]) (f:=V.int) (d:=0) (l:=[1000,10000,12000,200,10000]) (k:=5) (m:=74) (hX (bA a9 (bA a9 (bA a9 (bA a9 (bA a9 dj))))) rfl) rfl ab (by decide) (by decide)) cV)) (by iterate fail) ?_;generalize tk (bQ p 5) 40=z' at da g5⊢;generalize pick (0:Int) [1000,10000,12000,200,10000] (tk (bQ (bQ p 5) 40) 5)=most at B8⊢;generalize bQ (bQ (bQ p 5) 40) 5=gK at aq ba b0⊢;have B9:=jE (α:=Int) (Q:=fun x=>0≤x∧x≤20) (d:=0) (l:=[0,0,20]) (p:=gK) (k:=3) (by decide) (by decide) (by decide);refine hl (bH (p7 (n:=n+5) (hh:=[]) (f:=V.int) (d:=0) (l:=[0,0,20]) (k:=3) (m:=73) (hX (bA a9 (bA a9 (bA a9 dj))) rfl) rfl aq (by decide) (by decide)) (bH (p7 (n:=n+5) (hh:=[]) (f:=JY) (d:=(0,0)) (l:=JZ) (k:=6) (m:=72) (hX (bA (eX (bA a9 (bA a9 dj)) rfl) (bA (eX (bA a9 (bA a9 dj)) rfl) (bA (eX (bA a9 (bA a9 dj)) rfl) (bA (eX (bA a9 (bA a9 dj)) rfl) (bA (eX (bA a9 (bA a9 dj)) rfl) (bA (eX (bA a9 (bA a9 dj)) rfl) dj)))))) rfl) rfl ba (by decide) (by decide)) cV)) (by iterate fail) ?_;generalize pick (0:Int) [0,0,20] (tk gK 3)=x at B9⊢;generalize pick ((0,0):Int×Int) JZ (tk (bQ gK 3) 6)=X5;generalize bQ (bQ gK 3) 6=qD at b0⊢;obtain⟨i,j⟩:=X5;obtain⟨o,aO,g⟩:=Wb (n:=n+1) (m:=66) (p:=qD) (ends:=U ([i,j]=[1,1])) (t:=t) b0;obtain⟨nV,S,d2,fM,aB⟩:=g;refine dT (fo (bH (aP rfl) (bH (hW (aP rfl) (eX (bA a9 (bA a9 dj)) rfl) rfl) cV)) aO) ?_;have B':=jE (α:=Int×Bool) (Q:=fun q=> -2≤q.1∧q.1≤2) (d:=(0,true)) (l:=t7) (p:=nV) (k:=8) (by decide) (by decide) (by decide);have fk:=d2.bQ (k:=8);refine wC (vs:=[.int (pick ((0,true):Int×Bool) t7 (tk nV 8)).1,.bool (pick ((0,true):Int×Bool) t7 (tk nV 8)).2]) (p7 (n:=n+5) (hh:=[S.cell]) (f:=X3) (d:=(0,true)) (l:=t7) (k:=8) (m:=65) (hX (bA (eX (bA a9 (bA a9 dj)) rfl) (bA (eX (bA a9 (bA a9 dj)) rfl) (bA (eX (bA a9 (bA a9 dj)) rfl) (bA (eX (bA a9 (bA a9 dj)) rfl) (bA (eX (bA a9 (bA a9 dj)) rfl) (bA (eX (bA a9 (bA a9 dj)) rfl) (bA (eX (bA (wo a9) (bA a9 dj)) rfl) (bA (eX (bA (wo a9) (bA a9 dj)) rfl) dj)))))))) rfl) rfl d2 (by decide) (by decide)) (by dsimp only[List.map];iterate fail) ?_;generalize pick ((0,true):Int×Bool) t7 (tk nV 8)=q at B'⊢;generalize bQ nV 8=iw at fk⊢;obtain⟨L,last⟩:=q;obtain⟨o,aO,g⟩:=Jt (n:=n+2) (i:=i) (h:=[eE iw,S.cell]) (t:=t);obtain⟨xb,cY,t1,xc,zR⟩:=g;obtain⟨o,kD,g⟩:=Jt (n:=n+2) (i:=j) (h:=[eE iw,S.cell]) (t:=t1);obtain⟨xd,dt,e1,X6,m2⟩:=g;refine hl (bH (fo (bH (hj (aP rfl) a9 rfl) cV) aO) (bH (fo (bH (hj (aP rfl) a9 rfl) cV) kD) cV)) (by iterate fail) ?_;have f1:fit (cY.map enc).length=true:=dO (by erw[bF];exact cz (qe xc) rfl);obtain⟨T,d'⟩:∃T:Tl,T=⟨36+z',most,x,xb,xd⟩:=⟨_,rfl⟩
 refine dT (x:=.cell 6) (h:=[eE iw,S.cell,.lst (cY.reverse.map enc),.lst [],.lst [],.lst [],.e9 [(54,.cell 2),(55,.cell 3),(56,.cell 4),(27,.cell 5),(57,.v (.tup [.lst (xb.map b7),.lst (xd.map b7)])),(58,.v (.int (36+z'))),(46,.cell 1)]]) (Uo (h:=[eE iw,S.cell,.lst (cY.reverse.map enc),.lst [],.lst [],.lst []]) (bH (x:=.cell 2) (by erw[iv];exact Un (h:=[eE iw,S.cell]) (hj (aP rfl) a9 rfl) rfl f1) (bH (x:=.cell 3) (ng (h:=[eE iw,S.cell,.lst (cY.reverse.map enc)]) dj rfl) (bH (x:=.cell 4) (ng (h:=[eE iw,S.cell,.lst (cY.reverse.map enc),.lst []]) dj rfl) (bH (x:=.cell 5) (ng (h:=[eE iw,S.cell,.lst (cY.reverse.map enc),.lst [],.lst []]) dj rfl) (bH (eX (bA (hj (aP rfl) a9 rfl) (bA (hj (aP rfl) a9 rfl) dj)) rfl) (bH (aP rfl) (bH (aP rfl) cV))))))) rfl) ?_;refine hl (l:=[.v (.int most),.v (.int x),.cell 7]) (bH (aP rfl) (bH (aP rfl) (bH (ng (h:=[eE iw,S.cell,.lst (cY.reverse.map enc),.lst [],.lst [],.lst [],.e9 [(54,.cell 2),(55,.cell 3),(56,.cell 4),(27,.cell 5),(57,.v (.tup [.lst (xb.map b7),.lst (xd.map b7)])),(58,.v (.int (36+z'))),(46,.cell 1)]]) (bA (eX (bA a9 (bA (aP rfl) (bA a9 (bA a9 dj)))) rfl) dj) rfl) cV))) (st2:=⟨_,av iw S.cell (cY.reverse.map enc) [] [] [] (dk T) [b7 ⟨0,x,0,0⟩] [],e1,0⟩) (by subst d';exact Bc (aP rfl) a9 rfl rfl (Bc (aP rfl) a9 rfl rfl (Bc (aP rfl) a9 rfl rfl rl))) ?_;refine gW (hk (vs:=[iH S.ls,iH S.rs]) (eX (bA (tC (aP rfl) rfl rfl) (bA (tC (aP rfl) rfl rfl) dj)) rfl) rfl rfl) ?_;refine pX fD ?_;refine iK (hh':=av iw S.cell (cY.reverse.map enc) [] [] [] (dk T) [b7 ⟨0,x,0,0⟩,b7 S.ls] []) (gy (aP rfl) a9 rfl rfl) rfl (eX (bA (hi (aP rfl) rfl) (bA (hi (aP rfl) rfl) (bA (hi (aP rfl) rfl) (bA (hi (aP rfl) rfl) dj)))) rfl) rfl rfl rfl ?_;refine gh ⟨rfl,pX fD ?_⟩;refine iK (hh':=av iw S.cell (cY.reverse.map enc) [] [] [] (dk T) [b7 ⟨0,x,0,0⟩,b7 S.ls,b7 S.rs] []) (gy (aP rfl) a9 rfl rfl) rfl (eX (bA (hi (aP rfl) rfl) (bA (hi (aP rfl) rfl) (bA (hi (aP rfl) rfl) (bA (hi (aP rfl) rfl) dj)))) rfl) rfl rfl rfl ?_;refine gh ⟨rfl,pW ?_⟩;have dH:1≤cT:=nK.mp (cZ (by decide:1≤(3:Int)) gc.1);have mi:cT≤5:=nK.mp gc.2;have M:=ic T S cY.reverse dt cT (by
  subst d';refine⟨CW da,ZZ (Int.le_sub_one_of_lt g5) 36,B8.1,B8.2,B9.1,B9.2,fM,⟨cY,xc,rfl⟩,X6,fun ax=>?_,dH,mi⟩;have:U ([i,j]=[1,1])=true:=by
   cases hd:U ([i,j]=[1,1])with
   |true=>rfl
   |false=>exact absurd (aB hd) ax
  have:=of_decide_eq_true this
  injection this with aa ab
  injection ab with ab
  exact⟨zR aa,m2 ab⟩)
 have aC:T.x=x:=by erw[d']
 have he:T.ay=xd:=by erw[d']
 have:=XZ (n:=n) (t:=e1) (p:=iw) (L:=L) (last:=last) (x0:=I (.v (.lst (ns.map .int)))) (x3:=I (.v (.int (36+z')))) (x4:=I (.v (.int most))) (x5:=I (.v (.int x))) (x6:=I (.v (JY (i,j)))) (x10:=I (.v (.tup [.lst (xb.map b7),.lst (cY.map enc)]))) (x13:=I (.v (iH S.rs))) (x14:=J) M fM ⟨d0 B'.1 rfl,d3 B'.2 rfl⟩ dH mi (by erw[ff];exact qe xc) (fk.le (qy 13 mi));unfold qd at this;replace this:=he▸(aC▸this);exact this
end
end Mine.L
end
section
open PySem PySem.W
namespace Mine.L
def lH(it:aI):c3:=j8 da it
def cp(l:List aI)(c:Nat):Int:=(l.map fun it=>lH it c).sum
def fR(g:bb):c3:=i2 da g
def cO(l:List bb)(c:Nat):Int:=(l.map fun g=>fR g c).sum
theorem hr(v:c3)(k:Nat)(s:Int)(c:Nat):upd v k s c=v c+(if c=k then s else 0):=by unfold upd;split<;>lia
theorem qf(g:bb)(c:Nat):fR g c=(if c=0 then g.w else 0)+(if c=1+g.o.toNat then g.s else 0)+(if c=5 then g.k else 0):=by
 delta fR i2;rw[hr,hr,hr];show 0+_+_+_=_
 lia
theorem nB(v:c3)(g:bb)(c:Nat):i2 v g c=v c+fR g c:=by
 rw[qf];unfold i2;rw[hr,hr,hr]
 lia
theorem X7(v:c3)(it:aI)(c:Nat):j8 v it c=v c+lH it c:=by
 have h:∀s:Int,upd v 0 s c=v c+upd da 0 s c:=fun s=>by
  rw[hr,hr];show _=_+(0+_)
  lia
 cases it with
 |skip t g=>exact nB v g c
 |_=>exact h _
theorem X8:∀(l:List aI) (v:c3) (c:Nat),l.foldl j8 v c=v c+cp l c:=by
 intro aT
 induction aT with
 |nil=>intro v c;exact(eP _).symm
 |cons it r aD=>intro v c;show r.foldl j8 (j8 v it) c=v c+(lH it c+cp r c);rw[aD,X7];exact qx _ _ _
theorem rD(af:List aI)(k c:Nat):Sum af k c=cp (af.take k) c:=by unfold Sum;rw[X8];exact ko _
theorem nC(a b:List aI)(c:Nat):cp (a++b) c=cp a c+cp b c:=by unfold cp;erw[fy,C3]
theorem kR(a:aI)(b:List aI)(c:Nat):cp (a::b) c=lH a c+cp b c:=rfl
theorem nD(a b:List bb)(c:Nat):cO (a++b) c=cO a c+cO b c:=by unfold cO;erw[fy,C3]
theorem lI(a:bb)(b:List bb)(c:Nat):cO (a::b) c=fR a c+cO b c:=rfl
theorem J1:∀(l:List aI) (c:Nat),cp l.reverse c=cp l c:=by
 intro aT
 induction aT with
 |nil=>intro _;exact rfl
 |cons a r aD=>
  intro c;erw[mE,nC,aD,kR];show cp r c+(lH a c+0)=lH a c+cp r c
  lia
theorem X9(T:Tl)(S:cj)(c:Nat):eL S T.x c=cO [⟨0,T.x,0,0⟩,S.ls,S.rs] c:=by
 unfold eL;erw[hr,nB,nB,lI,lI,lI,qf ⟨0,T.x,0,0⟩];show 0+_+_+(if c=1 then T.x else 0)=(if c=0 then(0:Int)else 0)+(if c=1+0 then T.x else 0)+(if c=5 then 0 else 0)+(_+(_+0));have ay:(if c=0 then(0:Int)else 0)=0:=by refine Mine.eT (fun h=>?_) (fun h=>?_)<;>rfl
 have au:(if c=5 then(0:Int)else 0)=0:=by refine Mine.eT (fun h=>?_) (fun h=>?_)<;>rfl
 erw[ay,au]
 lia
structure X'(l:List bb):Prop where
 w:(l.map (·.w)).sum=cO l 0
 k:(l.map (·.k)).sum=cO l 5
 f:((l.filter fun g=>decide (g.o=0)).map (·.s)).sum=cO l 1
 h:((l.filter fun g=>decide (g.o>0)).map (·.s)).sum=cO l 2+cO l 3+cO l 4
 ck:0≤cO l 2
 gK:0≤cO l 3
 hM:0≤cO l 4
 cL:0≤cO l 1
 qD:0≤cO l 5
theorem xe{g:bb}{c:Nat}(h0:¬c=0)(b0:¬c=5):fR g c=if c=1+g.o.toNat then g.s else 0:=by erw[qf,if_neg h0,if_neg b0,ko,eP]
theorem J2{g:bb}:fR g 0=g.w:=by erw[qf,if_pos rfl,if_neg (by lia),if_neg (by decide),eP,eP]
theorem Ca{g:bb}(o:g.o≤3):fR g 5=g.k:=by erw[qf,if_neg (by decide),if_neg (by lia),if_pos rfl,ko,ko]
theorem Cb{l:List bb}{f:bb→Int}{c:Nat}(h:∀g,g∈l→f g=fR g c):(l.map f).sum=cO l c:=congrArg List.sum (nO h)
theorem J3{p:bb→Bool}{f:bb→Int}:∀l:List bb,((l.filter p).map f).sum=(l.map fun g=>bif p g then f g else 0).sum:=by
 intro aT
 induction aT with
 |nil=>exact rfl
 |cons g r aD=>
  erw[xY,g0,xO,←aD];cases p g
  ·exact(ko _).symm
  ·rfl
theorem Yb:∀l:List bb,(l.map fun g=>fR g 2+fR g 3+fR g 4).sum=cO l 2+cO l 3+cO l 4:=by
 intro aT
 induction aT with
 |nil=>exact rfl
 |cons g r aD=>erw[g0,xO,aD,lI,lI,lI];lia
theorem xf{c:Nat}(h0:¬c=0)(b0:¬c=5):∀{l:List bb},(∀g,g∈l→oR g)→0≤cO l c:=by
 intro aT
 induction aT with
 |nil=>intro _;exact dZ _
 |cons g r aD=>
  intro h;erw[lI,xe h0 b0];refine r1 ?_ (aD fun x aC=>h x (.tail _ aC))
  split
  ·exact(h g (.head _)).s0
  ·exact dZ _
theorem Yc:∀{l:List bb},(∀g,g∈l→oR g)→0≤cO l 5:=by
 intro aT
 induction aT with
 |nil=>intro _;exact dZ _
 |cons g r aD=>intro h;erw[lI,Ca (h g (.head _)).a0];exact r1 (h g (.head _)).kd (aD fun x aC=>h x (.tail _ aC))
theorem Yd{o:Int}(h0:0≤o)(aa:o≤3):o=0∨o=1∨o=2∨o=3:=by lia
theorem Cc{l:List bb}(h:∀g,g∈l→oR g):X' l:=by
 refine⟨Cb fun g aK=>J2.symm,Cb fun g aK=>(Ca (h g aK).a0).symm,(J3 l).trans (Cb fun g aK=>?_),(J3 l).trans (Eq.trans (congrArg List.sum (nO fun g aK=>?_)) (Yb l)),xf (by decide) (by decide) h,xf (by decide) (by decide) h,xf (by decide) (by decide) h,xf (by decide) (by decide) h,Yc h⟩
 all_goals
  erw[xe (by decide) (by decide)]
  try erw[xe (by decide) (by decide),xe (by decide) (by decide)]
  have o0:=(h g aK).o0;have a0:=(h g aK).a0;generalize g.s=s;generalize g.o=o at o0 a0⊢
  rcases Yd o0 a0 with rfl|rfl|rfl|rfl
 ·rfl
 ·rfl
 ·rfl
 ·rfl
 ·rfl
 ·exact((eP _).trans (eP _)).symm
 ·exact((eP _).trans (ko _)).symm
 ·exact(ko _).symm
theorem Ye{a b c:Int}(aB:0≤a)(ae:0≤b)(ah:0≤c):(!U (a=0)||(!U (b=0)|| !U (c=0)))=U (a+b+c>0):=by erw[←decide_not,←decide_not,←decide_not,←Bool.decide_or,←Bool.decide_or];exact decide_eq_decide.mpr ⟨fun h=>by lia,fun h=>by lia⟩
theorem Yg{b:Int}{p:Bool}:(bif p then((0,2):Int×Int)else bif U (b≤12)then(b,2)else(b,bif U (b≤99)then 1 else 0))=bif p then(0,2)else bif U (b>99)then(b,0)else(b,bif U (b>12)then 1 else 2):=by
 cases p
 ·refine bZ (fun c:b≤12=>?_) (fun c=>?_)
  ·erw[decide_eq_true c,decide_eq_false (ez.mpr c),decide_eq_false (ez.mpr (cZ c (by decide)))];rfl
  ·erw[decide_eq_false c,decide_eq_true (show b>12 from o1.mp c)];refine bZ (fun fW:b≤99=>?_) (fun fW=>?_)
   ·erw[decide_eq_true fW,decide_eq_false (ez.mpr fW)];rfl
   ·erw[decide_eq_false fW,decide_eq_true (show b>99 from o1.mp fW)];rfl
 ·rfl
theorem Yh{b:Int}{n:Bool}{y:Int}(h:¬b≤12→n=true):(bif U (b≤12)then((b,2):Int×Int)else(b,bif n then 3 else y))=(b,bif U (b>12)then 3 else 2):=by
 refine bZ (fun c:b≤12=>?_) (fun c=>?_)
 ·erw[decide_eq_true c,decide_eq_false (ez.mpr c)];rfl
 ·erw[decide_eq_false c,decide_eq_true (show b>12 from o1.mp c),h c];rfl
theorem Yi{z:Int}{l:List bb}(h:∀g,g∈l→oR g):iq z l=e8 z (cO l):=by
 obtain⟨cY,dt,gw,lx,tp,Yj,Yk,abn,Yl⟩:=Cc h;delta iq;erw[cY,dt,gw,lx];delta hA e8;erw[show nr (cO l)=_ from Ye tp Yj Yk];generalize cO l 2+cO l 3+cO l 4=H;generalize cO l 5=K at Yl⊢;generalize cO l 1=F;generalize z-cO l 0=s;refine bZ (fun ef:s>0=>?_) (fun ef=>?_)
 ·erw[decide_eq_true ef,decide_eq_false (show¬s< -K by lia),decide_eq_false (show¬s<0 by lia),show(s.natAbs:Int)=s by exact Dm ‹_›];exact Yg
 ·erw[decide_eq_false ef,show(s.natAbs:Int)= -s from LB (ez.mp ef)];refine bZ (fun e6:s< -K=>?_) (fun e6=>?_)
  ·erw[decide_eq_true e6,decide_eq_true (show-s>K by lia)];rfl
  ·erw[decide_eq_false e6,decide_eq_false (show¬ -s>K by exact Mm ‹_›)];refine Yh fun fW=>decide_eq_true ?_;refine eF (Int.lt_or_eq_of_le (ez.mp ef)) (fun h=>?_) (fun h=>?_)
   ·exact h
   ·subst h;exact absurd (by decide:(0:Int)≤12) fW
noncomputable def oU(b:Bool):List aI→Bool
 |[]=>b
 |it::r=>oU (!fp it) r
theorem nE{hp:Int}:∀(a b:List aI) (i:Nat) (bh:Bool),eK hp i bh (a++b)=eK hp i bh a++eK hp (i+a.length) (oU bh a) b:=by
 intro aT
 induction aT with
 |nil=>intro b i bh;exact rfl
 |cons it r aD=>intro b i bh;show brk hp bh i it++eK hp (i+1) (!fp it) (r++b)=(brk hp bh i it++eK hp (i+1) (!fp it) r)++eK hp (i+(r.length+1)) (oU (!fp it) r) b;erw[aD b,eR,show i+1+r.length=i+(r.length+1)from LM ..]
theorem J4:∀(a b:List aI) (x:Bool),oU x (a++b)=oU (oU x a) b:=by
 intro aT
 induction aT with
 |nil=>intro _ _;exact rfl
 |cons it r aD=>intro b x;exact aD b _
structure J5(l:List aI):Prop where
 kf:∀hp i bh,eK hp i bh l=[]
 bh:∀b,oU b l=true
theorem J6{l:List aI}{w:Int}(h:kO l w):J5 l:=by cases h<;>exact⟨fun ag ag ag=>rfl,fun ag=>rfl⟩
theorem J7{l:List aI}{w:Int}(h:kO l w):J5 l.reverse:=by cases h<;>exact⟨fun ag ag ag=>rfl,fun ag=>rfl⟩
theorem J8{gs:List bb}{l:List aI}(h:my gs l)(hp:Int)(i:Nat)(bh:Bool):eK hp i bh l=[]:=by cases h<;>rfl
theorem J9{gs:List bb}{l:List aI}(h:my gs l)(hp:Int)(i:Nat):eK hp i false l.reverse=[]:=by cases h<;>rfl
def rE(r:Row):Nat×Int×Int:=(r.first,gF r.b9,bif r.cf then 1 else 0)
def qg(q e:Nat)(r:Row):Nat×Int×Int:=(q+(e-1-r.last),gF r.b9,bif r.cf then 1 else 0)
theorem J'{α:Type}{b:Bool}{x:α}:(one b x).reverse=one b x:=by cases b<;>rfl
theorem rF{gi gs len k:Nat}{x:Nat×Int}{r:List (Nat×Int)}:jH gi gs len k (x::r)=one (U (x.2<10000)) ⟨gi,k,k,gs,gs+len,x.2,false,0,0⟩++jH gi gs len (k+1) r:=rfl
theorem Ym{hp:Int}{gi gs len:Nat}:∀(l:List (Nat×Int)) (k:Nat) (bh:Bool),eK hp k bh (l.map jG)=(jH gi gs len k l).map rE:=by
 intro aT
 induction aT with
 |nil=>intro _ _;exact rfl
 |cons x r aD=>intro k bh;show one (U (x.2<10000)) (k,gF x.2,0)++eK hp (k+1) false (r.map jG)=_;erw[rF,fy,tX,aD];rfl
theorem Yn{hp:Int}{gi gs len:Nat}:∀(l:List (Nat×Int)) (k q:Nat) (bh:Bool),eK hp q bh (l.map jG).reverse=(jH gi gs len k l).reverse.map (qg q (k+l.length)):=by
 intro aT
 induction aT with
 |nil=>intro _ _ _;exact rfl
 |cons x r aD=>
  intro k q bh;erw[g0,mE,nE,aD (k+1) q bh];erw[rF,nS,J',fy,tX,ff,bF,gA,show k+1+r.length=k+(r.length+1)from LM ..]
  congr 1
  show one (U (x.2<10000)) (q+r.length,gF x.2,0)++[]=one _ (q+(k+(r.length+1)-1-k),gF x.2,0);erw[ei,show k+(r.length+1)-1-k=r.length from iu k r.length]
structure Ka(p e:Nat)(r:Row):Prop where
 gs:r.gs=p
 ge:r.ge=e
 f0:p≤r.first
 dB:r.first≤r.last
 aM:r.last<e
theorem qh{α:Type}{b:Bool}{x y:α}(h:y∈one b x):y=x:=by
 induction b using hL with
 |false=>exact nomatch h
 |true=>exact dY.mp h
theorem Yo{gi gs len:Nat}:∀(l:List (Nat×Int)) (k:Nat),gs≤k→k+l.length=gs+len→∀r,r∈jH gi gs len k l→Ka gs (gs+len) r:=by
 intro aT
 induction aT with
 |nil=>intro _ _ _ r h;exact nomatch h
 |cons x l aD=>
  intro k aa ab r h;rw[rF]at h;refine eF (dR.mp h) (fun h=>?_) (fun h=>?_)
  ·erw[qh h];exact⟨rfl,rfl,aa,bE _,rT (qw (ji _)) ab⟩
  ·exact aD (k+1) (rM aa) ((iP k 1 _).trans ab) r h
theorem Yp{hp:Int}{gi p:Nat}{dK:List aI}{eN:List bb}{rw:List Row}(h:jI hp gi p dK eN rw):∀r,r∈rw→Ka p (p+dK.length) r:=by
 intro r av;cases h with
 |glue l aA ar aK=>have:0<l.length:=x1.mpr aA;erw[dY.mp av,bF];exact⟨rfl,rfl,bE _,xK (qw this),uC (ey this (Lz ..)) xZ⟩
 |jJ l aA ar aJ=>erw[bF];exact Yo l p (bE _) rfl r av
 |cf t a b m=>erw[qh av];exact⟨rfl,rfl,bE _,bE _,kk _⟩
structure Yq(hp:Int)(p:Nat)(dK:List aI)(rw:List Row):Prop where
 f:eK hp p true dK=rw.map rE
 r:∀q,eK hp q true dK.reverse=rw.reverse.map (qg q (p+dK.length))
theorem Yr{hp:Int}:∀(l:List (Nat×bb)) (i:Nat),eK hp i false (l.map lE)=[]:=by
 intro aT
 induction aT with
 |nil=>intro _;exact rfl
 |cons _ r aD=>intro i;exact aD (i+1)
theorem Kb{hp:Int}{l:List (Nat×bb)}(aA:l≠[])(i:Nat):eK hp i true (l.map lE)=[(i,0,0)]:=by
 induction l using bY with
 |nil=>exact absurd rfl aA
 |cons x r=>exact congrArg (_:: ·) (Yr r (i+1))
theorem Ys{hp:Int}{gi p:Nat}{dK:List aI}{eN:List bb}{rw:List Row}(h:jI hp gi p dK eN rw):Yq hp p dK rw:=by
 cases h with
 |glue l aA ar aK=>refine⟨Kb aA p,fun q=>?_⟩;erw[←iv,Kb (fun h=>aA (aar.mp h)),bF];exact congrArg (fun k=>[(q+k,(0:Int),(0:Int))]) (kY _).symm
 |jJ l aA ar aJ=>exact⟨Ym l p true,fun q=>by erw[bF];exact Yn l p q true⟩
 |cf t a b m=>
  refine⟨?_,fun q=>?_⟩
  ·erw[tX];exact ei _
  ·erw[J',tX];show one _ (q,gF hp,(1:Int))++[]=one _ (q+(p-p),gF hp,(1:Int));erw[ei,kY];rfl
structure Yt(hp:Int)(af:List aI)(rs:List Row):Prop where
 f:eK hp 0 false af=rs.map rE
 b:oU false af=true
 r:∀i bh,eK hp i bh af.reverse=rs.reverse.map (qg i af.length)
 l:∀r,r∈rs→r.last<af.length
theorem Yu{i j n m l:Nat}(h:l<n)(hm:j+n=i+m)(aA:n≤m):j+(n-1-l)=i+(m-1-l):=by
 obtain⟨x,rfl⟩:=aas h;obtain⟨y,rfl⟩:=xQ aA;rw[iP (l+x) 1 y]at hm⊢;rw[lT,iu,lT,rV l,iu]
 lia
theorem Cd{rs:List Row}{i j n m:Nat}(h:∀r,r∈rs→r.last<n)(hm:j+n=i+m)(aA:n≤m):rs.map (qg j n)=rs.map (qg i m):=by refine nO fun r av=>?_;unfold qg;erw[Yu (h r av) hm aA]
set_option tactic.hygienic true in
theorem Yv{hp:Int}{bp af:List aI}{ws:List Int}{gs:List (List bb)}{rs:List Row}(h:Lay hp bp af ws gs rs)(h0:∀i,eK hp i false bp=[])(aa:∀i bh,eK hp i bh bp.reverse=[]):Yt hp af rs:=by
 induction h with
 |one w=>
  have a:=J6 w;have b:=J7 w;refine⟨?_,?_,fun i bh=>?_,fun r h=>nomatch h⟩
  ·erw[nE,h0,a.kf];rfl
  ·erw[J4,a.bh]
  ·erw[nS,nE,b.kf,aa];rfl
 |more l g w aG=>
  rename_i af dK fw ws wv gs eN rs rw;have a:=J6 w;have b:=J7 w;have gl:=Ys g;have xg:=Yp g;refine⟨?_,?_,fun i bh=>?_,fun r av=>?_⟩
  ·erw[nE,nE,a.kf,aG.f,aG.b,nN,gl.f,ei,fy]
  ·erw[J4,a.bh]
  ·erw[nS,nS,nE,b.kf,b.bh,nE,gl.r,aG.r,nQ,nS,fy];simp only[ff,b4];erw[Cd (rs:=rw.reverse) (i:=i) (m:=af.length+dK.length+fw.length) (fun r av=>(xg r (lV.mp av)).aM) (by lia) (f6 _ _)];erw[Cd (rs:=rs.reverse) (i:=i) (m:=af.length+dK.length+fw.length) (fun r av=>aG.l r (lV.mp av)) (by lia) (by lia)]
  ·simp only[b4];refine eF (dR.mp av) (fun av=>?_) (fun av=>?_)
   ·have:=aG.l r av;exact Mi ‹_›
   ·have:=(xg r av).aM;exact yc ‹_›
theorem Ce{a b:aI}(h:f5 a b):fp b=fp a:=by cases h<;>rfl
theorem Yw{a b:aI}(h:f5 a b)(hp:Int)(bh:Bool)(i:Nat):brk hp bh i b=brk hp bh i a:=by cases h<;>rfl
theorem Yx{a b:aI}(h:f5 a b)(c:Nat):lH b c=lH a c:=by
 cases h with
 |same=>rfl
 |cf t t' x y m=>show upd da 0 (dU m.reverse) c=upd da 0 (dU m) c;unfold dU;erw[iv,L5]
theorem Yy{hp:Int}{l m:List aI}(h:dn f5 l m):∀(i:Nat) (bh:Bool),eK hp i bh m=eK hp i bh l:=by
 induction h with
 |nil=>intro _ _;rfl
 |cons r _ aG=>intro i bh;erw[Bi,Bi];erw[Yw r,Ce r,aG]
theorem Yz{l m:List aI}(h:dn f5 l m):∀(k c:Nat),cp (m.take k) c=cp (l.take k) c:=by
 induction h with
 |nil=>intro _ _;rfl
 |cons r _ aG=>
  intro k c
  induction k using fe with
  |zero=>rfl
  |succ k=>erw[aat,aat,kR,kR,Yx r,aG]
inductive oV:List aI→Row→Prop where
 |glue (l:List (Nat×bb)) (r:Row) (aA:l≠[]) (f:r.first=r.gs) (gm:r.last+1=r.gs+l.length) (d:r.cf=false) (pr:r.pre=0) (po:r.post=0):oV (l.map lE) r
 |jJ (l:List (Nat×Int)) (r:Row) (k:Nat) (ai:k<l.length) (f:r.first=r.gs+k) (gm:r.last=r.gs+k) (d:r.cf=false) (pr:r.pre=0) (po:r.post=0):oV (l.map jG) r
 |cf (t:Nat) (a b m:i9) (r:Row) (f:r.first=r.gs) (gm:r.last=r.gs) (d:r.cf=true) (pr:r.pre=dU a) (po:r.post=dU b):oV [.cf t a b m] r
inductive oW(af:List aI)(r:Row):Prop where
 |mk (pre gap post:List aI) (x y:aI) (e:af=((pre++[x])++gap)++(y::post)) (aC:fp x=false) (aV:fp y=false) (gs:r.gs=pre.length+1) (ge:r.ge=r.gs+gap.length) (k:oV gap r)
noncomputable def kS(n:Nat)(r:Row):Row:=⟨r.g,n-1-r.last,n-1-r.first,n-r.ge,n-r.gs,r.b9,r.cf,r.post,r.pre⟩
theorem Cf{α β:Type}{R:α→β→Prop}:∀{a b:List α} {m:List β},dn R (a++b) m→∃gT b',m=gT++b'∧dn R a gT∧dn R b b':=by
 intro aT
 induction aT with
 |nil=>intro b m h;exact⟨[],m,rfl,.nil,h⟩
 |cons x a aD=>
  intro b m h;cases h with
  |cons r t=>obtain⟨gT,b',rfl,aa,ab⟩:=aD t;exact⟨_::gT,b',rfl,.cons r aa,ab⟩
theorem YA{l m:List aI}(h:dn f5 l m):(∀x,x∈l→lC x=false)→m=l:=by
 induction h with
 |nil=>intro _;rfl
 |cons r _ aG=>
  intro hd;erw[aG fun x aC=>hd x (.tail _ aC)];cases r with
  |same=>rfl
  |cf=>cases hd _ (.head _)
theorem kd_len{gap:List aI}{r:Row}(h:oV gap r):r.gs≤r.first∧r.first≤r.last∧r.last<r.gs+gap.length:=by
 cases h with
 |glue l r aA f gm=>have:0<l.length:=x1.mpr aA;erw[bF,←gm,f];exact⟨bE _,kh (rT (qw this) gm.symm),kk _⟩
 |jJ l r k ai f gm=>erw[bF,f,gm];exact⟨f6 ..,bE _,Z0 ai _⟩
 |cf t a b m r f gm=>erw[f,gm];exact⟨bE _,bE _,kk _⟩
theorem Cg{n l g:Nat}(h:l+1=g):n-1-l=n-g:=by erw[Nat.sub_sub,o2 1 l,h]
theorem YB{n g f l:Nat}(h:f+l=g)(aK:g≤n)(ar:0<l):n-1-f+1=n-g+l:=by obtain⟨m,rfl⟩:=xQ aK;obtain⟨j,rfl⟩:=mC.mpr ar;subst h;rw[iu,iP,←rV m];show f+m+j-f+1=_;rw[rV,iu]
theorem YC{n g f l k:Nat}(h:f+l=g)(aK:g≤n)(ai:k<l):n-1-(f+k)=n-g+(l-1-k):=by obtain⟨m,rfl⟩:=xQ aK;obtain⟨j,rfl⟩:=aas ai;subst h;rw[iu,lT,iu,iP];show f+m+(k+j)-(f+k)=_;rw[Nat.add_add_add_comm,iu]
theorem Kc{l k:Nat}(ai:k<l):l-1-k<l:=gI (rX ..) (uC (gI (fx _) ai) xZ)
theorem YD{X G P:Nat}:X+G+P-X=X+G+P-(X+G)+G:=by rw[iu,rV,iu,o2]
theorem Kd(l:i9):dU l.reverse=dU l:=by unfold dU;erw[iv,L5]
theorem Ke{α:Type}{f:α→aI}{l:List α}{m:List aI}(h:dn f5 (l.map f).reverse m)(hd:∀x,lC (f x)=false):m=l.reverse.map f:=by rw[←iv]at h;exact YA h fun x aC=>by obtain⟨q,_,rfl⟩:=f9.mp aC;exact hd q
theorem YE{gap Ci:List aI}{r:Row}{n:Nat}(h:oV gap r)(m:dn f5 gap.reverse Ci)(aA:r.gs+gap.length=r.ge)(ar:r.ge≤n):oV Ci (kS n r):=by
 cases h with
 |glue l r gg f gm d pr po=>rw[bF]at aA;erw[Ke m fun ag=>rfl];exact .glue _ _ (fun h=>gg (aar.mp h)) (Cg (gm.trans aA)) (by erw[ff];exact YB (by erw[f];exact aA) ar (x1.mpr gg)) d po pr
 |jJ l r k ai f gm d pr po=>
  rw[bF]at aA;erw[Ke m fun ag=>rfl];have e:n-1-(r.gs+k)=n-r.ge+(l.length-1-k):=YC aA ar ai;refine .jJ _ _ (l.length-1-k) ?_ ?_ ?_ d po pr
  ·erw[ff];exact Kc ai
  ·show n-1-r.last=_;erw[gm];exact e
  ·show n-1-r.first=_;erw[f];exact e
 |cf t a b fG r f gm d pr po=>
  have aA:r.gs+1=r.ge:=aA;have m:dn f5 [aI.cf t a b fG] Ci:=m;cases m with
  |cons q t8=>
   cases t8;cases q with
   |same _ h=>injections h
   |cf _ t'=>exact .cf _ _ _ _ _ (Cg (by erw[gm];exact aA)) (Cg (by erw[f];exact aA)) d (po.trans (Kd _).symm) (pr.trans (Kd _).symm)
set_option tactic.hygienic true in
theorem YF{af a7:List aI}{r:Row}(h:oW af r)(m:dn f5 af.reverse a7):oW a7 (kS af.length r):=by
 obtain⟨pre,gap,post,x,y,rfl,aC,aV,gs,ge,k⟩:=h;have ar:(((pre++[x])++gap)++(y::post)).length=pre.length+1+gap.length+(post.length+1):=by simp only[b4,gA,CY]
 replace m:=mE▸(nS▸(nS▸(nS▸m)));obtain⟨gT,b',rfl,hR,ma⟩:=Cf m;obtain⟨oq,dr,rfl,Kf,Cj⟩:=Cf ma;obtain⟨dp,gu,rfl,YG,YH⟩:=Cf hR;have Cj:dn f5 (x::pre.reverse) dr:=Cj;cases Cj with
 |cons ct lX=>
 rename_i pF YI;cases YH with
 |cons dP pa=>
 rename_i zh _;cases pa;have aM:=YG.length;have bt:=Kf.length;rw[ff]at aM bt;erw[ar];have q9:r.ge≤pre.length+1+gap.length+(post.length+1):=by erw[ge,gs];exact f6 ..
 refine .mk dp oq YI zh pF (by simp only[eR,xP,nQ]) ((Ce dP).trans aV) ((Ce ct).trans aC) ?_ ?_ (YE k Kf ge.symm q9)
 ·show pre.length+1+gap.length+(post.length+1)-r.ge=_;erw[ge,gs,iu,aM]
 ·show _-r.gs=_-r.ge+_;erw[ge,gs,bt];exact YD
theorem Kg{y:aI}{post:List aI}(aV:fp y=false):∀l:List aI,(∀x,x∈l→fp x=true)→ik (l++y::post)=l.length:=by
 intro aT
 induction aT with
 |nil=>intro _;show(bif fp y then _ else 0)=0;erw[aV];rfl
 |cons x l aD=>intro h;show(bif fp x then ik (l++y::post)+1 else 0)=_;erw[h x (.head _),aD fun z bw=>h z (.tail _ bw)];rfl
theorem Kh{α:Type}{a g c:List α}{k:Nat}(ai:k<g.length):((a++g)++c)[a.length+k]? =g[k]? :=by erw[mD (by erw[b4];exact Mr ‹_›),iR (f6 ..),iu]
theorem Ki{α:Type}{a g c:List α}{k:Nat}(ai:k≤g.length):((a++g)++c).drop (a.length+k)=g.drop k++c:=by rw[eR,List.drop_append,List.drop_eq_nil_of_le (f6 ..),iu,nQ,List.drop_append,show k-g.length=0 from CS (by assumption),List.drop_zero]
theorem Kj{α:Type}{a g c:List α}{k:Nat}(ai:k≤g.length):((a++g)++c).take (a.length+k)=a++g.take k:=by erw[eR,List.take_append,uw (f6 ..),iu,List.take_append,show k-g.length=0 from CS (by assumption),L6,ei]
theorem Ck:∀(l:List (Nat×Int)) (c:Nat),cp (l.map jG) c=0:=by
 intro aT
 induction aT with
 |nil=>intro _;exact rfl
 |cons x r aD=>
  intro c;have:lH (jG x) c=0:=by show upd da 0 0 c=0;erw[hr];show 0+(if c=0 then(0:Int)else 0)=0;refine Mine.eT (fun h=>?_) (fun h=>?_)<;>rfl
  erw[g0,kR,this,aD];rfl
structure oX(af:List aI)(r:Row):Prop where
 st:gY af r.first=r.ge
 en:∀c,kN af r.first c=cp (af.take r.gs) c+(if c=0 then r.pre else 0)
 jD:∀c,mv af r.first c=cp (af.take r.ge) c-(if c=0 then r.post else 0)
 f0:r.gs≤r.first
 dB:r.first≤r.last
 aM:r.last<r.ge
 ln:r.ge<af.length
 oI:0<r.gs
theorem YJ{af:List aI}{p:Nat}{it:aI}(aK:af[p]? =I it)(hd:lC it=false):gY af p=p+ik (af.drop p)∧kN af p=Sum af p∧mv af p=Sum af (gY af p):=by delta kN mv gY;erw[aK];cases it<;>first|exact⟨rfl,rfl,rfl⟩|cases hd
theorem jc{af:List aI}{r:Row}(h:oW af r):oX af r:=by
 refine eA fun cF=>?_;obtain⟨pre,gap,post,x,y,e,aC,aV,gs,ge,k⟩:=h;have ax:(pre++[x]).length=r.gs:=by erw[b4,gs];rfl
 obtain⟨Kk,Kl,xh⟩:=kd_len k;refine cF ?_;have oI:0<r.gs:=gs▸ji _;replace xh:=(ge).symm▸xh;have hlen:r.ge<af.length:=by erw[e,b4,b4,ax,←ge];exact qw (ji _)
 have YK:af.take r.gs=pre++[x]:=by
  have:=Kj (a:=pre++[x]) (g:=gap) (c:=y::post) (fx _)
  rwa [Nat.add_zero,L6,ei,ax,←e]at this
 have plain:∀(m:Nat),m<gap.length→r.first=r.gs+m→(∀z,z∈gap→fp z=true)→(∀z,z∈gap→lC z=false)→(∀c,cp (gap.take m) c=0)→r.pre=0→r.post=0→oX af r:=fun m hm hf hd aA aJ pr po=>by
  have aK:af[r.first]? =I gap[m]:=by erw[e,hf,←ax,Kh hm,gp hm]
  obtain⟨s1,s2,s3⟩:=YJ aK (aA _ (uu hm));have t9:gY af r.first=r.ge:=by erw[s1,hf,ge,e,←ax,Ki (c' hm),Kg aV _ fun z bw=>hd z (List.mem_of_mem_drop bw),CT,rV,mG (c' hm)]
  refine⟨t9,fun c=>?_,fun c=>?_,Kk,Kl,xh,hlen,oI⟩
  ·erw[s2,rD,pr,YK,hf,e,←ax,Kj (c' hm),nC,aJ c,ite_self]
  ·erw[s3,t9,rD,po,ite_self,rS]
 cases k with
 |glue l _ aA f gm d pr po=>
  have:0<l.length:=x1.mpr aA;refine plain 0 (by erw[bF];exact this) f (fun z bw=>?_) (fun z bw=>?_) (fun c=>rfl) pr po
  ·obtain⟨q,_,rfl⟩:=f9.mp bw;rfl
  ·obtain⟨q,_,rfl⟩:=f9.mp bw;rfl
 |jJ l _ k ai f gm d pr po=>
  refine plain k (by erw[bF];exact ai) f (fun z bw=>?_) (fun z bw=>?_) (fun c=>?_) pr po
  ·obtain⟨q,_,rfl⟩:=f9.mp bw;rfl
  ·obtain⟨q,_,rfl⟩:=f9.mp bw;rfl
  ·erw[←List.map_take,Ck]
 |cf t a b m _ f gm d pr po=>
  have q9:r.ge=r.gs+1:=ge;have aK:af[r.first]? =I (.cf t a b m):=by erw[e,f,←ax];exact Kh (k:=0) (Nat.zero_lt_succ _)
  have t9:gY af r.first=r.ge:=by
   delta gY;erw[aK];show(bif b.isEmpty then r.first+1+ik (af.drop (r.first+1))else r.first+1)=_;have:ik (af.drop (r.first+1))=0:=by erw[e,f,←ax,Ki (k:=1) (bE _)];exact Kg aV [] fun ag h=>nomatch h
   erw[this,f];cases b.isEmpty
   ·exact q9.symm
   ·exact q9.symm
  refine⟨t9,fun c=>?_,fun c=>?_,Kk,Kl,xh,hlen,oI⟩
  ·unfold kN;erw[aK];show upd (Sum af r.first) 0 (dU a) c=_;erw[hr,rD,f,pr]
  ·unfold mv;erw[aK];show upd (Sum af (gY af r.first)) 0 (-dU b) c=_;erw[hr,rD,t9,po]
   split
   ·rfl
   ·exact(eP _).trans (rS _).symm
structure YL(af:List aI)(r dz:Row):Prop where
 gs:dz.gs=r.gs
 ge:dz.ge=r.ge
 z:∀c,cp (af.take r.ge) c=cp (af.take r.gs) c
 po:r.post=0
 pr:dz.pre=0
 f:r.first<dz.first
 l:r.last<dz.last
def Km(af:List aI)(r dz:Row):Prop:=r.ge≤dz.gs∨YL af r dz
def eO(ws:List Int)(k c:Nat):Int:=cO ((ws.take k).map f3) c
def e0(gs:List (List bb))(k c:Nat):Int:=((gs.take k).map fun l=>cO l c).sum
def Cm(gs:List (List bb))(r dz:Row):Prop:=r.g<dz.g∨(dz.g=r.g∧gs.getD r.g []=[]∧r.pre=0∧dz.pre=0∧r.post=0∧dz.post=0)
structure Kn(bp af:List aI)(ws:List Int)(gs:List (List bb))(rs:List Row):Prop where
 at':∀r,r∈rs→oW af r
 dh:rs.Pairwise (Km af)
 g:∀r,r∈rs→r.g<gs.length
 a:∀r,r∈rs→∀c,cp (af.take r.gs) c=cp bp c+eO ws (r.g+1) c+e0 gs r.g c
 b:∀r,r∈rs→∀c,cp (af.take r.ge) c=cp bp c+eO ws (r.g+1) c+e0 gs (r.g+1) c
 t:∀c,cp af c=cp bp c+eO ws ws.length c+e0 gs gs.length c
 a4:rs.Pairwise (Cm gs)
 w:ws.length=gs.length+1
 last:∃pre x,af=pre++[x]∧fp x=false
theorem Ko{af b:List aI}{r:Row}(h:oW af r):oW (af++b) r:=by obtain⟨pre,gap,post,x,y,rfl,aC,aV,gs,ge,k⟩:=h;exact .mk pre gap (post++b) x y (by erw[eR,xP]) aC aV gs ge k
theorem ua(w:Int)(c:Nat):fR (f3 w) c=if c=0 then w else 0:=by
 rw[qf];show(if c=0 then w else 0)+(if c=1+(0:Int).toNat then 0 else 0)+(if c=5 then 0 else 0)=_;have e:∀P [Decidable P],(if P then(0:Int)else 0)=0:=fun P ag=>by refine Mine.eT (fun h=>?_) (fun h=>?_)<;>rfl
 rw[e,e];exact ya
noncomputable def YM:aI→Bool
 | .skip .. =>true
 |_=>false
theorem qi{it:aI}(h:YM it=false)(hd:lC it=false)(c:Nat):lH it c=if c=0 then Bf it else 0:=by
 have e:∀s:Int,upd da 0 s c=if c=0 then s else 0:=fun s=>by rw[hr];exact ko _
 cases it with
 |skip t g=>injections h
 |cf=>injections hd
 |_=>exact e _
theorem Kp{fw:List aI}{wv:Int}(h:kO fw wv)(c:Nat):cp fw c=fR (f3 wv) c:=by
 rw[ua];cases h with
 |box t w=>rw[kR,qi rfl rfl];exact eP _
 |gX t t' sU w k s=>
  rw[kR,kR,kR,qi rfl rfl,qi rfl rfl,qi rfl rfl]
  split<;>exact rfl
 |mark t t' w=>rw[kR,kR,qi rfl rfl,qi rfl rfl];show(if c=0 then wv else 0)+((if c=0 then 0 else 0)+0)=_;refine Mine.eT (fun h=>?_) (fun h=>?_)<;>lia
theorem Kq{hp:Int}{gi p:Nat}{dK:List aI}{eN:List bb}{rw:List Row}(h:jI hp gi p dK eN rw)(c:Nat):cp dK c=cO eN c:=by
 cases h with
 |glue l=>delta cp cO;erw[jP,jP];rfl
 |jJ l=>exact Ck l c
 |cf t a b m=>
  show upd da 0 (dU m) c+0=fR (f3 (dU m)) c+0;erw[ua,hr];show 0+_+0=_
  lia
theorem Kr{gs:List bb}{l:List aI}(h:my gs l)(c:Nat):cp l c=cO gs c:=by
 cases h with
 |nil=>rfl
 |one t t' g=>rw[kR,qi rfl rfl];show(if c=0 then(0:Int)else 0)+(fR g c+0)=fR g c+0;refine Mine.eT (fun h=>?_) (fun h=>?_)<;>exact Int.add_left_comm _ _ _
theorem xi{ws:List Int}{w:Int}{k c:Nat}(h:k≤ws.length):eO (ws++[w]) k c=eO ws k c:=by unfold eO;erw[r2 h]
theorem Cn{gs:List (List bb)}{l:List bb}{k c:Nat}(h:k≤gs.length):e0 (gs++[l]) k c=e0 gs k c:=by unfold e0;erw[r2 h]
theorem YN{ws:List Int}{w:Int}{c:Nat}:eO (ws++[w]) (ws.length+1) c=eO ws ws.length c+fR (f3 w) c:=by unfold eO;erw[uw (by erw[b4];exact bE _),o7,fy,nD];exact uF
theorem Ks{gs:List (List bb)}{l:List bb}{c:Nat}:e0 (gs++[l]) (gs.length+1) c=e0 gs gs.length c+cO l c:=by unfold e0;erw[uw (by erw[b4];exact bE _),o7,fy,C3];exact uF
structure YO(gi p:Nat)(dK:List aI)(r:Row):Prop where
 k:oV dK r
 gs:r.gs=p
 ge:r.ge=p+dK.length
 g:r.g=gi
theorem Kt{gi gs len:Nat}:∀(l:List (Nat×Int)) (k:Nat) (r:Row),r∈jH gi gs len k l→∃j v,k≤j∧j<k+l.length∧r=⟨gi,j,j,gs,gs+len,v,false,0,0⟩:=by
 intro aT
 induction aT with
 |nil=>intro _ _ h;exact nomatch h
 |cons x l aD=>
  intro k r h;rw[rF]at h
  rcases dR.mp h with h|h
  ·exact⟨k,x.2,bE _,by erw[gA];lia,qh h⟩
  ·obtain⟨j,v,aa,ab,aq⟩:=aD (k+1) r h;exact⟨j,v,c' ‹_›,by erw[gA];exact Mj ‹_›,aq⟩
theorem YQ{gi gs len:Nat}{P:Row→Row→Prop}(dM:∀j nF v fK,j<nF→P ⟨gi,j,j,gs,gs+len,v,false,0,0⟩ ⟨gi,nF,nF,gs,gs+len,fK,false,0,0⟩):∀(l:List (Nat×Int)) (k:Nat),(jH gi gs len k l).Pairwise P:=by
 intro aT
 induction aT with
 |nil=>intro _;exact .nil
 |cons x l aD=>
  intro k;erw[rF];refine CV.mpr ⟨?_,aD (k+1),fun a aB b ae=>?_⟩
  ·cases U (x.2<10000)
   ·exact .nil
   ·exact CM _ _
  ·obtain⟨j,v,aa,_,rfl⟩:=Kt l (k+1) b ae;erw[qh aB];exact dM _ _ _ _ (yd ‹_›)
theorem YR{hp:Int}{gi p:Nat}{dK:List aI}{eN:List bb}{rw:List Row}(h:jI hp gi p dK eN rw):∀r,r∈rw→YO gi p dK r:=by
 intro r av;cases h with
 |glue l aA ar aK=>have:0<l.length:=x1.mpr aA;erw[dY.mp av];exact⟨.glue l _ aA rfl (CL (bR (by assumption) (Lz ..))) rfl rfl rfl,rfl,by erw[bF],rfl⟩
 |jJ l aA ar aJ=>obtain⟨j,v,aa,ab,rfl⟩:=Kt l p r av;exact⟨.jJ l _ (j-p) (Nat.sub_lt_left_of_lt_add ‹_› ‹_›) (mG (by assumption)).symm (mG (by assumption)).symm rfl rfl rfl,rfl,by erw[bF],rfl⟩
 |cf t a b m=>erw[qh av];exact⟨.cf t a b m _ rfl rfl rfl rfl rfl,rfl,rfl,rfl⟩
theorem Ku{hp:Int}{gi p:Nat}{dK:List aI}{eN:List bb}{rw:List Row}{P:Row→Row→Prop}(h:jI hp gi p dK eN rw)(dM:eN=[]→(∀c,cp dK c=0)→∀j nF v fK,j<nF→P ⟨gi,j,j,p,p+dK.length,v,false,0,0⟩ ⟨gi,nF,nF,p,p+dK.length,fK,false,0,0⟩):rw.Pairwise P:=by
 cases h with
 |glue l aA ar aK=>exact CM _ _
 |jJ l aA ar aJ=>rw[bF]at dM;exact YQ (dM rfl (Ck l)) l p
 |cf t a b m=>
  cases U (hp<10000)
  ·exact .nil
  ·exact CM _ _
theorem Kv{fw:List aI}{wv:Int}(h:kO fw wv):(∃y post,fw=y::post∧fp y=false)∧∃pre x,fw=pre++[x]∧fp x=false:=by
 cases h with
 |box t w=>exact⟨⟨_,_,rfl,rfl⟩,[],_,rfl,rfl⟩
 |gX t t' sU w k s=>exact⟨⟨_,_,rfl,rfl⟩,[.box t w,.gX t' k s],_,rfl,rfl⟩
 |mark t t' w=>exact⟨⟨_,_,rfl,rfl⟩,[.box t wv],_,rfl,rfl⟩
set_option tactic.hygienic true in
theorem Kw{hp:Int}{bp af:List aI}{ws:List Int}{gs:List (List bb)}{rs:List Row}(h:Lay hp bp af ws gs rs):Kn bp af ws gs rs:=by
 induction h with
 |one w=>
  rename_i fw wv;obtain⟨_,pre,x,e,aC⟩:=Kv w;refine⟨fun ag h=>(nomatch h),.nil,fun ag h=>(nomatch h),fun ag h=>(nomatch h),fun ag h=>(nomatch h),fun c=>?_,.nil,rfl,bp++pre,x,by erw[e,eR],aC⟩;erw[nC,Kp w];show _=_+(fR (f3 wv) c+0)+0
  lia
 |more l g w aG=>
  rename_i af dK fw ws wv gs eN rs rw;obtain⟨⟨y,post,sy,aV⟩,YS,x2,au,YT⟩:=Kv w;obtain⟨pre,x,ex,aC⟩:=aG.last;have kT:=YR g;have old:∀r,r∈rs→oX af r:=fun r av=>jc (aG.at' r av);have tk:∀k,k≤af.length→((af++dK)++fw).take k=af.take k:=fun k ai=>by erw[eR,r2 ai]
  have nat:∀r,r∈rw→oW ((af++dK)++fw) r:=fun r av=>by obtain⟨k,aa,ab,_⟩:=kT r av;exact .mk pre dK post x y (by erw[←ex,←sy]) aC aV (by erw[aa,ex,b4];rfl) (by erw[ab,aa]) k
  have Kx:((af++dK)++fw).take af.length=af:=by erw[tk _ (bE _),o7]
  have Ky:((af++dK)++fw).take (af.length+dK.length)=af++dK:=by erw[r2 (by erw[b4];exact bE _),uw (by erw[b4];exact bE _)]
  have hw:=aG.w;have YU:∀i,i<gs.length→(gs++[eN]).getD i []=gs.getD i []:=fun i aw=>by erw[je,je,mD aw]
  have YV:(gs++[eN]).getD gs.length []=eN:=by erw[je,iR (bE _),kY];rfl
  refine⟨fun r av=>?_,?_,fun r av=>?_,fun r av c=>?_,fun r av c=>?_,fun c=>?_,?_,?_,(af++dK)++YS,x2,by erw[au,eR,eR,eR],YT⟩
  ·rcases dR.mp av with av|av
   ·erw[eR];exact Ko (aG.at' r av)
   ·exact nat r av
  ·refine CV.mpr ⟨aG.dh.imp_of_mem fun{a b} aB ae h=>?_,Ku g fun ag bw j nF v fK a'=>.inr ⟨rfl,rfl,fun c=>?_,rfl,rfl,a',a'⟩,fun a aB b ae=>.inl ?_⟩
   ·have aa:=old a aB
    rcases h with h|⟨ab,aq,ba,b0,d2,fk,pH⟩
    ·exact .inl h
    ·exact .inr ⟨ab,aq,fun c=>by erw[tk _ (c' aa.ln),tk _ (by have:=aa.ln;have:=aa.f0;have:=aa.dB;have:=aa.aM;lia)];exact ba c,b0,d2,fk,pH⟩
   ·show cp (List.take (af.length+dK.length) _) c=cp (List.take af.length _) c;erw[Ky,Kx,nC,bw c];exact eP _
   ·erw[(kT b ae).gs];exact c' (old a aB).ln
  ·erw[b4]
   rcases dR.mp av with av|av
   ·have:=aG.g r av;exact yb ‹_›
   ·erw[(kT r av).g];exact kk _
  ·rcases dR.mp av with av|av
   ·have aa:=old r av;have ab:=aG.g r av;erw[tk _ (by have:=aa.ln;have:=aa.f0;have:=aa.dB;have:=aa.aM;lia),aG.a r av c,xi (by lia),Cn (c' ‹_›)]
   ·erw[(kT r av).gs,(kT r av).g,Kx,aG.t c,xi (eQ (Eq.symm ‹_›)),Cn (bE _),hw]
  ·rcases dR.mp av with av|av
   ·have aa:=old r av;have ab:=aG.g r av;erw[tk _ (c' aa.ln),aG.b r av c,xi (by lia),Cn (‹_›)]
   ·erw[(kT r av).ge,(kT r av).g,Ky,nC,aG.t c,Kq g,xi (eQ (Eq.symm ‹_›)),Ks,hw];exact qx _ _ _
  ·erw[nC,nC,aG.t c,Kq g,Kp w,b4,b4];erw[YN,Ks];lia
  ·refine CV.mpr ⟨aG.a4.imp_of_mem fun{a b} aB ae h=>?_,Ku g fun he ag j nF v fK a'=>.inr ⟨rfl,by erw[YV,he],rfl,rfl,rfl,rfl⟩,fun a aB b ae=>.inl ?_⟩
   ·rcases h with h|⟨aa,ab,aq⟩
    ·exact .inl h
    ·exact .inr ⟨aa,by erw[YU _ (aG.g a aB)];exact ab,aq⟩
   ·erw[(kT b ae).g];exact aG.g a aB
  ·erw[b4,b4,hw];rfl
structure gn(hp:Int)(af:List aI)(R:List Row):Prop where
 at':∀r,r∈R→oW af r
 dh:R.Pairwise (Km af)
 kf:b6 hp af=R.map rE++[(af.length,-10000,1)]
def h1(af:List aI)(R:List Row)(j c:Nat):Int:=(R[j-1]?).elim (cp af c) fun r=>cp (af.take r.gs) c+(if c=0 then r.pre else 0)
noncomputable def jM(af:List aI)(R:List Row)(j c:Nat):Int:=match j with
 |0=>0
 |j+1=>(R[j]?).elim (cp af c) fun r=>cp (af.take r.ge) c-(if c=0 then r.post else 0)
theorem ub{af:List aI}{R:List Row}{j c:Nat}:jM af R (j+1) c=(R[j]?).elim (cp af c) fun r=>cp (af.take r.ge) c-(if c=0 then r.post else 0):=rfl
theorem uc{hp:Int}{af:List aI}{R:List Row}(h:gn hp af R){j:Nat}{r:Row}(av:R[j]? =I r):nodes af (b6 hp af) (j+1)=node af (rE r):=by
 have a':=(d7.mp av).1;show(match(b6 hp af)[j]? with|some q=>node af q|none=>ka)=_
 erw[h.kf,mD (by erw[bF];exact a'),lP,av];rfl
theorem xj{hp:Int}{af:List aI}{R:List Row}(h:gn hp af R):nodes af (b6 hp af) (R.length+1)=node af (af.length,-10000,1):=by
 show(match(b6 hp af)[R.length]? with|some q=>node af q|none=>ka)=_
 erw[h.kf,iR (by erw[bF];exact bE _),bF,kY];rfl
theorem YW{hp:Int}{af:List aI}{R:List Row}(h:gn hp af R){j:Nat}(a':R.length+1<j):nodes af (b6 hp af) j=ka:=by
 induction j using fe with
 |zero=>lia
 |succ j=>
  show(match(b6 hp af)[j]? with|some q=>node af q|none=>ka)=_
  erw[h.kf,jd (by erw[b4,bF];show _+1≤_;exact kh ‹_›)]
theorem YX(af:List aI)(c:Nat):cp (af.take af.length) c=cp af c:=by erw[o7]
theorem ud{af:List aI}{R:List Row}{j c:Nat}:h1 af R (j+1) c=(R[j]?).elim (cp af c) fun r=>cp (af.take r.gs) c+(if c=0 then r.pre else 0):=rfl
inductive xk(hp:Int)(af:List aI)(R:List Row)(b:Nat):Prop where
 |row (r:Row) (av:R[b]? =I r) (a:oX af r) (e:nodes af (b6 hp af) (b+1)=node af (rE r))
 |last (ae:b=R.length) (av:R[b]? =J) (e:nodes af (b6 hp af) (b+1)=node af (af.length,-10000,1))
theorem YY{hp:Int}{af:List aI}{R:List Row}(h:gn hp af R){b:Nat}(ae:b≤R.length):xk hp af R b:=by
 rcases rW ae with ae|rfl
 ·have av:=gp ae;exact .row _ av (jc (h.at' _ (fI av))) (uc h av)
 ·exact .last rfl (jd (bE _)) (xj h)
theorem Kz{hp:Int}{af:List aI}{R:List Row}{b:Nat}(h:xk hp af R b)(c:Nat):(nodes af (b6 hp af) (b+1)).en c=h1 af R (b+1) c:=by
 erw[ud];cases h with
 |row r av a e=>erw[e,av];exact a.en c
 |last ae av e=>erw[e,av];show kN af af.length c=cp af c;unfold kN;erw[jd (bE _)];exact(rD af af.length c).trans (YX af c)
theorem YZ{hp:Int}{af:List aI}{R:List Row}{b:Nat}(h:xk hp af R b):0≤(nodes af (b6 hp af) (b+1)).p:=by
 cases h with
 |row r av a e=>erw[e];exact nL _
 |last ae av e=>erw[e];exact nL _
theorem KA{g:c3}{a b:fE}{c:Nat}{e s:Int}(he:b.en c=e)(aL:a.jD c=s)(bw:a.st>b.p→e=s):gj g a b c=e-s+g c:=by
 unfold gj;refine bZ (fun hd:a.st>b.p=>?_) (fun hd=>?_)
 ·erw[decide_eq_true hd,bw hd,rY,ko];rfl
 ·erw[decide_eq_false hd];show b.en c-a.jD c+g c=_;erw[he,aL]
theorem Y0{hp:Int}{af:List aI}{R:List Row}(h:gn hp af R){i b:Nat}{r:Row}(av:R[i]? =I r)(xl:i<b)(n:xk hp af R b)(aL:((r.ge:Nat):Int)>(nodes af (b6 hp af) (b+1)).p)(c:Nat):h1 af R (b+1) c=jM af R (i+1) c:=by
 cases n with
 |last ae aE e=>rw[e]at aL;exact absurd (nM.mp aL) (kW.mpr (c' (jc (h.at' r (fI av))).ln))
 |row dz aE a e=>
  rw[e]at aL;refine f7 (d7.mp av) fun aw pz=>?_;refine f7 (d7.mp aE) fun ae cU=>?_;have dM:=C4.mp h.dh i b aw ae xl;rw[pz,cU]at dM
  rcases dM with dM|⟨ay,_,z,po,pr,_,_⟩
  ·exact absurd (gI (bR dM a.f0) (nM.mp aL)) (qu _)
  ·erw[ud,ub,aE,av];show cp (af.take dz.gs) c+(if c=0 then dz.pre else 0)=cp (af.take r.ge) c-(if c=0 then r.post else 0);erw[ay,pr,po,z c,ite_self,eP,rS]
theorem Co{hp:Int}{af:List aI}{R:List Row}(h:gn hp af R){a b:Nat}(g:c3)(du:a<b)(ae:b≤R.length+1)(c:Nat):
  gj g (nodes af (b6 hp af) a) (nodes af (b6 hp af) b) c=h1 af R b c-jM af R a c+g c:=by
 obtain⟨b,rfl⟩:=mC.mpr (gI (fx _) du);have ae:=o6 ae;have n:=YY h ae
 induction a using fe with
 |zero=>exact KA (Kz n c) rfl fun hd=>absurd (oZ hd (dZ 0)) (ez.mpr (YZ n))
 |succ i=>
  have xl:=rO du;have av:=gp (ey xl ae);have kG:=jc (h.at' _ (fI av));have e:=uc h av;refine KA (Kz n c) ?_ fun hd=>Y0 h av xl n ?_ c
  ·erw[e,ub,av];exact kG.jD c
  ·rw[e]at hd;have hd:((gY af R[i].first:Nat):Int)>_:=hd
   rwa [kG.st]at hd
theorem xm{ws:List Int}{k c:Nat}(h:k<ws.length):eO ws (k+1) c=eO ws k c+fR (f3 (ws.getD k 0)) c:=by unfold eO;erw[List.take_succ,fy,nD,get_map h];exact uF
theorem xn{gs:List (List bb)}{k c:Nat}(h:k<gs.length):e0 gs (k+1) c=e0 gs k c+cO (gs.getD k []) c:=by unfold e0;erw[List.take_succ,fy,C3,BS h];exact uF
theorem Y1(x w g a b c d:Int):x+(w+(a-(b+x)+(c-(d+w))))=a-b+(c-d):=by lia
theorem Y2{ws:List Int}{gs:List (List bb)}{eb c:Nat}(hw:eb<ws.length)(aK:eb≤gs.length):∀(m k:Nat),k+m=eb→cO (kQ ws gs eb k (m+1)) c=eO ws (eb+1) c-eO ws k c+(e0 gs eb c-e0 gs k c):=by
 intro eW
 induction eW with
 |zero=>intro k h;obtain rfl:k=eb:=h;erw[w2,decide_eq_false (qu _),xm hw,rY,eP,rP (eO ws k c),Int.add_sub_cancel];exact eP _
 |succ m aD=>intro k h;have ai:=rT (qw (ji m)) h;erw[w2,decide_eq_true ai,lI];show _+cO (gs.getD k []++_) c=_;erw[nD,(aD (k+1) ((iP k 1 m).trans h)),xm (lS ai hw),xn (ey ai aK)];exact Y1 _ _ 0 _ _ _ _
theorem Cp{ws:List Int}{gs:List (List bb)}{eb k c:Nat}(hw:eb<ws.length)(aK:eb≤gs.length)(ai:k≤eb):cO (kQ ws gs eb k (eb+1-k)) c=eO ws (eb+1) c-eO ws k c+(e0 gs eb c-e0 gs k c):=by erw[Nat.succ_sub ai];exact Y2 hw aK _ _ (mG ai)
noncomputable def fH(a:Nat):Option Nat:=match a with
 |0=>J
 |a+1=>I a
structure Told(D:bX)(bp aR af:List aI):Prop where
 f:Kn bp af D.ws D.gs D.rs
 eI:∀c,cp bp c=cO D.T.eI c
 ay:∀c,cp aR c=cO D.T.ay c
theorem xo(w:Int)(c:Nat):cO [f3 w] c=if c=0 then w else 0:=by show fR (f3 w) c+0=_;rw[ua,eP]
theorem Y3(g s e m E W G w k:Int)(h:m=W-w+(G-k)):g+s+e+m=E+W+G+e-(E+w+k-s)+g:=by lia
section
variable{D:bX}{bp aR af:List aI}
theorem Told.tk(h:Told D bp aR af){r:Row}(av:r∈D.rs):(af++aR).take r.gs=af.take r.gs∧(af++aR).take r.ge=af.take r.ge:=by have a:=jc (h.f.at' r av);have e:=c' a.ln;exact⟨r2 (bR (bR a.f0 a.dB) (bR (c' a.aM) e)),r2 e⟩
theorem xp{j:Nat}{r:Row}(av:D.rs[j]? =I r):D.aw j=r.g∧D.jb j=[f3 r.pre]:=by delta bX.aw bX.jb;erw[av];exact⟨rfl,rfl⟩
theorem xq:D.aw D.rs.length=D.ws.length-1∧D.jb D.rs.length=D.T.ay:=by delta bX.aw bX.jb;erw[jd (bE _)];exact⟨rfl,rfl⟩
theorem Told.w1(h:Told D bp aR af){j:Nat}(a':j≤D.rs.length):D.aw j≤D.gs.length∧D.aw j<D.ws.length:=by
 have key:D.aw j≤D.gs.length:=by
  rcases rW a' with a'|rfl
  ·have av:=hZ a';erw[(xp av).1];exact c' (h.f.g _ (fI av))
  ·erw[xq.1,h.f.w];exact bE _
 exact⟨key,by erw[h.f.w];exact uj key⟩
theorem Told.Cq(h:Told D bp aR af){j:Nat}(a':j≤D.rs.length)(c:Nat):h1 (af++aR) D.rs (j+1) c=cp bp c+eO D.ws (D.aw j+1) c+e0 D.gs (D.aw j) c+cO (D.jb j) c:=by
 unfold h1;erw[lT]
 rcases rW a' with a'|rfl
 ·have av:=hZ a';have hm:=fI av;refine bC (fun ay au=>?_) (xp av);erw[ay,au,av,xo,←h.f.a _ hm,←(h.tk hm).1];rfl
 ·refine bC (fun ay au=>?_) (xq (D:=D));erw[ay,au,jd (bE _),←h.ay c,h.f.w];refine(nC af aR c).trans (congrArg (· +cp aR c) ?_);erw[h.f.t c,h.f.w];rfl
theorem Told.KC(h:Told D bp aR af){a:Nat}(aB:a≤D.rs.length)(c:Nat):jM (af++aR) D.rs a c=cp bp c+eO D.ws (D.lo (fH a)) c+e0 D.gs (D.lo (fH a)) c-cO (D.kP (fH a)) c:=by
 induction a using fe with
 |zero=>show 0=cp bp c+0+0-cO D.T.eI c;erw[←h.eI c,eP,eP,rY]
 |succ i=>have av:=hZ aB;have hm:=fI av;have ay:D.lo (fH (i+1))=(D.row i).g+1:=congrArg (fun o:Option Row=>o.elim 0 (·.g+1)) av;have au:D.kP (fH (i+1))=[f3 (D.row i).post]:=congrArg (fun o:Option Row=>o.elim D.T.eI fun r=>[f3 r.post]) av;erw[ay,au,ub,av,xo,←h.f.b _ hm,←(h.tk hm).2];rfl
theorem Told.Y4(h:Told D bp aR af){a j:Nat}(du:a<j+1)(a':j≤D.rs.length)(c:Nat):cO (kQ D.ws D.gs (D.aw j) (D.lo (fH a)) (D.aw j+1-D.lo (fH a))) c=eO D.ws (D.aw j+1) c-eO D.ws (D.lo (fH a)) c+(e0 D.gs (D.aw j) c-e0 D.gs (D.lo (fH a)) c):=by
 refine bC (fun ab aa=>?_) (h.w1 a')
 induction a using fe with
 |zero=>exact Cp aa ab (fx _)
 |succ i=>
  have aw:=ey (rO du) a';have qc:=hZ aw;have ay:D.lo (fH (i+1))=(D.row i).g+1:=congrArg (fun o:Option Row=>o.elim 0 (·.g+1)) qc;have KD:=h.f.g _ (fI qc);erw[ay]
  rcases rW a' with a'|rfl
  ·have KG:=hZ a';rw[(xp KG).1]at aa ab⊢;have dM:Cm D.gs (D.row i) (D.row j):=by
    have:=C4.mp h.f.a4 i j aw a' (rO du)
    rwa [(d7.mp qc).2,(d7.mp KG).2]at this
   rcases dM with dM|⟨e,bw,_⟩
   ·exact Cp aa ab dM
   ·erw[e,kY,xn KD,bw,rY,show cO [] c=0 from rfl,eP,rY];rfl
  ·rw[xq.1]at aa ab⊢;exact Cp aa ab (xK (by erw[h.f.w];exact C5 KD))
theorem Y5(h:Told D bp aR af){a b:Nat}(du:a<b)(ae:b≤D.rs.length+1)(c:Nat):cO (D.line (fH a) (b-1)) c=h1 (af++aR) D.rs b c-jM (af++aR) D.rs a c+cO D.gr c:=by obtain⟨j,rfl⟩:=mC.mpr (gI (fx _) du);have a':=o6 ae;rw[lT,h.Cq a',h.KC (bR (kh du) a')];unfold bX.line;rw[nD,nD,nD];exact Y3 _ _ _ _ _ _ _ _ _ (h.Y4 du a' c)
end
noncomputable def kU:aI→Prop
 | .box _ w=> -40≤w∧w≤40
 | .gX _ w _=> -40≤w∧w≤40
 | .skip _ g=>hI g
 | .cf _ a b m=>ny a∧ny b∧ny m
 |_=>True
structure xr(r:Row):Prop where
 dA:0≤r.pre
 cL:r.pre≤6
 kK:0≤r.post
 eu:r.post≤6
 eW: -12000≤r.b9
 kA:r.b9≤10000
structure Cr(af:List aI)(ws:List Int)(gs:List (List bb))(rs:List Row):Prop where
 it:∀it,it∈af→kU it
 ln:af.length≤2+5*ws.length
 b3:rs.length≤2*gs.length
 g2:∀l,l∈gs→l.length≤2
 a4:∀l,l∈gs→∀g,g∈l→jF g
 dh:∀w,w∈ws→8≤w∧w≤40
 pr:∀r,r∈rs→xr r
 k:hG af
 qj:hG af.reverse
theorem KH:∀{a b:List aI},hG a→hG b→hG (a++b):=by
 intro aT
 induction aT with
 |nil=>intro _ _ h;exact h
 |cons it r aD=>
  intro b aB ae;cases it with
  |gX t w s=>obtain⟨⟨t',bP,q,rfl⟩,ab⟩:=aB;exact⟨⟨t',bP,q++b,rfl⟩,aD ab ae⟩
  |box=>exact aD aB ae
  |skip=>exact aD aB ae
  |b9=>exact aD aB ae
  |cf=>exact aD aB ae
  |mark=>exact aD aB ae
structure jN(l:List aI):Prop where
 it:∀it,it∈l→kU it
 k:hG l
 qj:hG l.reverse
theorem KI{fw:List aI}{wv:Int}(h:kO fw wv):jN fw∧8≤wv∧wv≤40:=by
 cases h with
 |box t w h0 aa=>refine⟨⟨fun it aw=>?_,trivial,trivial⟩,h0,d3 ‹_› rfl⟩;erw[dY.mp aw];exact⟨d0 ‹_› rfl,d3 ‹_› rfl⟩
 |gX t t' sU w k s h0 aa kd dH=>
  refine⟨⟨fun it aw=>?_,⟨⟨_,_,_,rfl⟩,trivial⟩,⟨⟨_,_,_,rfl⟩,trivial⟩⟩,by lia,by lia⟩;simp only[ec,kZ,or_false]at aw
  rcases aw with rfl|rfl|rfl
  ·exact⟨d0 ‹_› rfl,d3 ‹_› rfl⟩
  ·exact⟨d0 ‹_› rfl,d3 ‹_› rfl⟩
  ·exact⟨by decide,by decide⟩
 |mark t t' w h0 aa=>
  refine⟨⟨fun it aw=>?_,trivial,trivial⟩,h0,d3 ‹_› rfl⟩;simp only[ec,kZ,or_false]at aw
  rcases aw with rfl|rfl
  ·exact⟨d0 ‹_› rfl,d3 ‹_› rfl⟩
  ·exact trivial
theorem KJ:∀l:List (Nat×bb),hG (l.map lE):=by
 intro aT
 induction aT with
 |nil=>exact trivial
 |cons _ r aD=>exact aD
theorem KL:∀l:List (Nat×Int),hG (l.map jG):=by
 intro aT
 induction aT with
 |nil=>exact trivial
 |cons _ r aD=>exact aD
structure Y6(eN:List bb)(rw:List Row):Prop where
 g2:eN.length≤2
 a4:∀g,g∈eN→jF g
 pr:∀r,r∈rw→xr r
theorem Y7{gi gs len:Nat}:∀(l:List (Nat×Int)) (k:Nat),(∀x,x∈l→BK x)→∀r,r∈jH gi gs len k l→xr r:=by
 intro aT
 induction aT with
 |nil=>intro _ _ _ h;exact nomatch h
 |cons x l aD=>
  intro k aC r h;rw[rF]at h;refine eF (dR.mp h) (fun h=>?_) (fun h=>?_)
  ·have:=aC x (.head _);erw[qh h];exact⟨dZ 0,by show(0:Int)≤6;decide,dZ 0,by show(0:Int)≤6;decide,this.lo,this.aw⟩
  ·exact aD (k+1) (fun y aV=>aC y (.tail _ aV)) r h
theorem Y8{hp:Int}{gi p:Nat}{dK:List aI}{eN:List bb}{rw:List Row}(h0: -10000≤hp)(aa:hp≤10000)(h:jI hp gi p dK eN rw):jN dK∧Y6 eN rw:=by
 cases h with
 |glue l aA ar aK=>
  refine⟨⟨fun it aw=>?_,KJ l,by erw[←iv];exact KJ _⟩,by erw[bF];exact ar,fun g mm=>?_,fun r av=>?_⟩
  ·obtain⟨x,aC,rfl⟩:=f9.mp aw;exact(aK x aC).b
  ·obtain⟨x,aC,rfl⟩:=f9.mp mm;exact aK x aC
  ·erw[dY.mp av];exact⟨dZ 0,by show(0:Int)≤6;decide,dZ 0,by show(0:Int)≤6;decide,by show-12000≤(0:Int);decide,by show(0:Int)≤10000;decide⟩
 |jJ l aA ar aJ=>refine⟨⟨fun it aw=>?_,KL l,by erw[←iv];exact KL _⟩,fx _,fun g mm=>(nomatch mm),Y7 l p aJ⟩;obtain⟨x,aC,rfl⟩:=f9.mp aw;exact trivial
 |cf t a b m aB ae hm=>
  refine⟨⟨fun it aw=>?_,trivial,trivial⟩,iO rfl,fun g mm=>?_,fun r av=>?_⟩
  ·erw[dY.mp aw];exact⟨aB,ae,hm⟩
  ·erw[dY.mp mm];exact⟨⟨hm.s0,by have:=hm.s1;show dU m≤20;exact d3 ‹_› rfl,dZ 0,by show(0:Int)≤20;decide,dZ 0,by show(0:Int)≤3;decide,dZ 0,by show(0:Int)≤20;decide⟩,hm.s0⟩
  ·erw[qh av];exact⟨aB.s0,aB.s1,ae.s0,ae.s1,d0 ‹_› rfl,aa⟩
theorem rG{gs:List bb}{l:List aI}(h:my gs l):jN l∧(∀g,g∈gs→jF g)∧gs.length≤1:=by
 cases h with
 |nil=>exact⟨⟨fun ag h=>(nomatch h),trivial,trivial⟩,fun ag h=>(nomatch h),fx _⟩
 |one t t' g aK=>
  refine⟨⟨fun it aw=>?_,trivial,trivial⟩,fun x aC=>?_,bE _⟩
  ·simp only[ec,kZ,or_false]at aw
   rcases aw with rfl|rfl
   ·exact trivial
   ·exact aK.b
  ·erw[dY.mp aC];exact aK
theorem jN.app{a b:List aI}(aB:jN a)(ae:jN b):jN (a++b):=by
 refine⟨fun it aw=>?_,KH aB.k ae.k,by erw[nS];exact KH ae.qj aB.qj⟩;refine eF (dR.mp aw) (fun aw=>?_) (fun aw=>?_)
 ·exact aB.it it aw
 ·exact ae.it it aw
theorem jN.rev{a:List aI}(aB:jN a):jN a.reverse:=⟨fun it aw=>aB.it it (lV.mp aw),aB.qj,by rw[L7];exact aB.k⟩
theorem Cs{hp:Int}{bp af:List aI}{ws:List Int}{gs:List (List bb)}{rs:List Row}(h0: -10000≤hp)(aa:hp≤10000)(hS:jN bp)(ar:bp.length≤2)(h:Lay hp bp af ws gs rs):Cr af ws gs rs:=by
 induction h with
 |one w=>obtain⟨b,oN,ie⟩:=KI w;have:=(w9 w).n;obtain⟨cY,dt,gw⟩:=hS.app b;refine⟨cY,by erw[b4];exact kp ‹_› ‹_› rfl,bE _,fun ag h=>(nomatch h),fun ag h=>(nomatch h),fun x aC=>?_,fun ag h=>(nomatch h),dt,gw⟩;erw[dY.mp aC];exact⟨oN,ie⟩
 |more l g w aG=>
  obtain⟨b,oN,ie⟩:=KI w;refine bC (fun xg kT=>?_) (Y8 h0 aa g);have:=(w9 w).n;have w':=JW g;obtain⟨cY,dt,gw⟩:=((⟨aG.it,aG.k,aG.qj⟩:jN _).app xg).app b;refine⟨cY,?_,?_,fun x aC=>?_,fun x aC=>?_,fun x aC=>?_,fun x aC=>?_,dt,gw⟩
  ·have:=aG.ln;simp only[b4,gA,CY];lia
  ·have:=aG.b3;simp only[b4,gA,CY];exact MM ‹_› (qp ‹_›)
  ·refine eF (dR.mp aC) (fun aC=>?_) (fun aC=>?_)
   ·exact aG.g2 x aC
   ·erw[dY.mp aC];exact kT.g2
  ·refine eF (dR.mp aC) (fun aC=>?_) (fun aC=>?_)
   ·exact aG.a4 x aC
   ·erw[dY.mp aC];exact kT.a4
  ·refine eF (dR.mp aC) (fun aC=>?_) (fun aC=>?_)
   ·exact aG.dh x aC
   ·erw[dY.mp aC];exact⟨oN,ie⟩
  ·refine eF (dR.mp aC) (fun aC=>?_) (fun aC=>?_)
   ·exact aG.pr x aC
   ·exact kT.pr x aC
set_option tactic.hygienic true in
theorem Y9{l m:List aI}(h:dn f5 l m)(ai:hG l):hG m:=by
 induction h with
 |nil=>trivial
 |cons r t aG=>
  cases r with
  |cf=>exact aG ai
  |same _ hd=>
   rename_i it _ _;cases it with
   |gX aF w s=>
    obtain⟨⟨t',bP,q,rfl⟩,ab⟩:=ai;refine⟨?_,aG ab⟩;cases t with
    |cons dz _=>cases dz with
     |same=>exact⟨_,_,_,rfl⟩
   |box=>exact aG ai
   |skip=>exact aG ai
   |b9=>exact aG ai
   |cf=>exact aG ai
   |mark=>exact aG ai
theorem Ct{x:i9}(h:ny x):ny x.reverse:=by
 have e:dU x.reverse=dU x:=by unfold dU;erw[iv,L5]
 exact⟨by erw[ff];exact h.n,fun q aE=>h.b q (lV.mp aE),by erw[e];exact h.s0,by erw[e];exact h.s1⟩
theorem Y'{l m:List aI}(h:dn f5 l m)(ai:∀it,it∈l→kU it):∀it,it∈m→kU it:=by
 induction h with
 |nil=>exact ai
 |cons r t aG=>
  intro it aw
  rcases ec.mp aw with rfl|aw
  ·have:=ai _ (.head _);cases r with
   |same=>exact this
   |cf=>exact⟨Ct this.2.1,Ct this.1,Ct this.2.2⟩
  ·exact aG (fun x aC=>ai x (.tail _ aC)) it aw
theorem Cu{it:aI}(h:kU it):pZ it:=by
 cases it with
 |skip t g=>exact⟨h.o0,h.a0⟩
 |cf t a b m=>exact⟨by have:=h.1.n;exact cz ‹_› rfl,by have:=h.2.1.n;exact cz ‹_› rfl,by have:=h.2.2.n;exact cz ‹_› rfl⟩
 |_=>trivial
structure dD(n v:Int):Prop where
 lo: -n≤v
 aw:v≤n
theorem dD.add{m n a b:Int}(h:dD m a)(g:dD n b):dD (m+n) (a+b):=⟨Int.neg_add▸kj h.lo g.lo,kj h.aw g.aw⟩
theorem dD.mono{m n v:Int}(h:dD m v)(g:m≤n):dD n v:=⟨cZ (C0 g) h.lo,cZ h.aw g⟩
theorem dD.z{n:Int}(h:0≤n):dD n 0:=⟨L8 h,h⟩
theorem dD.pos{n v:Int}(h:0≤v)(g:v≤n):dD n v:=⟨cZ (L8 (cZ h g)) h,g⟩
theorem dD.ite{n v:Int}{c:Prop}{d:Decidable c}(h:dD n v)(g:0≤n):dD n (@ite _ c d v 0):=Mine.eT (fun ag=>h) fun ag=>.z g
theorem Cv{g:bb}(h:hI g)(c:Nat):dD 60 (fR g c):=by erw[qf];exact((dD.ite (.pos h.oN h.ie) (by decide)).add (dD.ite (.pos h.s0 h.s1) (by decide))).add (dD.ite (.pos h.kd h.dH) (by decide))
theorem ue{s:Int}(h0: -60≤s)(aa:s≤60)(c:Nat):dD 60 (upd da 0 s c):=by erw[hr];exact(dD.z (dZ 0)).add (dD.ite ⟨h0,aa⟩ (by decide))
theorem Za{it:aI}(h:kU it)(c:Nat):dD 60 (lH it c):=by
 cases it with
 |skip t g=>exact Cv h c
 |cf t a b m=>exact ue (by have:=h.2.2.s0;exact d0 ‹_› rfl) (by have:=h.2.2.s1;exact d3 ‹_› rfl) c
 |box t w=>exact ue (by have:=h.1;exact d0 ‹_› rfl) (by have:=h.2;exact d3 ‹_› rfl) c
 |gX t w s=>exact ue (by have:=h.1;exact d0 ‹_› rfl) (by have:=h.2;exact d3 ‹_› rfl) c
 |b9=>exact ue (by decide: -60≤(0:Int)) (by decide:(0:Int)≤60) c
 |mark=>exact ue (by decide: -60≤(0:Int)) (by decide:(0:Int)≤60) c
theorem Zb:∀{l:List aI},(∀it,it∈l→kU it)→∀c,dD (60*l.length) (cp l c):=by
 intro aT
 induction aT with
 |nil=>intro _ _;exact⟨dZ 0,dZ 0⟩
 |cons a r aD=>intro h c;have aa:=Za (h a (.head _)) c;have ab:=aD (fun x aC=>h x (.tail _ aC)) c;have a1:=aa.lo;have a2:=aa.aw;have pG:=ab.lo;have th:=ab.aw;erw[kR,gA];exact⟨MO ‹_› ‹_›,MN ‹_› ‹_›⟩
theorem rH{l:List aI}(h:∀it,it∈l→kU it)(k c:Nat):dD (60*l.length) (Sum l k c):=by
 erw[rD];have:=Zb (l:=l.take k) (fun it aw=>h it (aaj aw)) c;have ab:(l.take k).length≤l.length:=by erw[List.length_take];exact Nat.min_le_right _ _
 exact this.mono (C1 (nK.mpr ab) (by decide))
theorem Zc{l:List aI}(h:∀it,it∈l→kU it)(q:Nat×Int×Int)(c:Nat):dD (60*l.length+6) ((node l q).en c)∧dD (60*l.length+6) ((node l q).jD c):=by
 have hw:∀{v:c3} {s:Int},dD (60*l.length) (v c)→ -6≤s→s≤6→dD (60*l.length+6) (upd v 0 s c):=fun aJ h0 aa=>by erw[hr];exact aJ.add (dD.ite ⟨h0,aa⟩ (by decide))
 have aE:∀{v:c3},dD (60*l.length) (v c)→dD (60*l.length+6) (v c):=fun aJ=>aJ.mono (CW (by decide));show dD _ (kN l q.1 c)∧dD _ (mv l q.1 c);delta kN mv;cases aw:l[q.1]? with
 |none=>exact⟨aE (rH h _ c),aE (rH h _ c)⟩
 |some it=>
  have hit:=h it (fI aw);cases it with
  |cf t a b m=>exact⟨hw (rH h _ c) (by have:=hit.1.s0;exact d0 ‹_› rfl) hit.1.s1,hw (rH h _ c) (by have:=hit.2.1.s1;exact C0 ‹_›) (cZ (C0 hit.2.1.s0) (by decide))⟩
  |_=>exact⟨aE (rH h _ c),aE (rH h _ c)⟩
structure KN(a:fE)(c:Nat):Prop where
 e:dD 1006000 (a.en c)
 b:dD 6000 (a.jD c)
theorem xt{l:List aI}(h:∀it,it∈l→kU it)(ar:l.length≤90)(L:List (Nat×Int×Int))(j c:Nat):KN (nodes l L j) c:=by
 induction j using fe with
 |zero=>exact⟨⟨by show-1006000≤(0:Int);decide,by show(0:Int)≤1006000;decide⟩,⟨by show-6000≤(0:Int);decide,by show(0:Int)≤6000;decide⟩⟩
 |succ j=>
  show KN (match L[j]? with|some q=>node l q|none=>ka) c
  cases L[j]? with
  |some q=>refine bC (fun aa ab=>?_) (Zc h q c);have q:60*(l.length:Int)+6≤6000:=cZ (kn (C1 (nK.mpr ar) (by decide)) 6) (by decide);exact⟨aa.mono (cZ q (by decide)),ab.mono q⟩
  |none=>refine⟨?_,⟨by show-6000≤(0:Int);decide,by show(0:Int)≤6000;decide⟩⟩;show dD _ (upd da 0 1000000 c);erw[hr];exact(dD.z (dZ 0)).add (dD.ite (n:=1006000) ⟨by decide,by decide⟩ (by decide))
theorem Cw{S:cj}{x:Int}(ar:hI S.ls)(av:hI S.rs)(h0:0≤x)(aa:x≤20)(c:Nat):dD 200 (eL S x c):=by unfold eL;erw[hr,nB,nB];exact((((dD.z (dZ 0)).add (Cv ar c)).add (Cv av c)).add (dD.ite (.pos h0 aa) (by decide))).mono (by decide)
theorem Zd{l:List aI}{L:List (Nat×Int×Int)}{S:cj}{z x:Int}(h:∀it,it∈l→kU it)(ar:l.length≤90)(Ze:hI S.ls)(Zf:hI S.rs)(h0:0≤x)(aa:x≤20)(abo:36≤z)(g5:z≤75)(a b:Nat):wM z (gj (eL S x) (nodes l L a) (nodes l L b)):=by
 have key:∀c,dD 1013000 (gj (eL S x) (nodes l L a) (nodes l L b) c):=fun c=>by
  have g:=Cw Ze Zf h0 aa c;have na:=xt h ar L a c;have nb:=xt h ar L b c;have g1:=g.lo;have g2:=g.aw;have ay:=nb.e.lo;have au:=nb.e.aw;have g4:=na.b.lo;have jj:=na.b.aw;unfold gj;cases U ((nodes l L a).st>(nodes l L b).p)
  ·show dD _ ((nodes l L b).en c-(nodes l L a).jD c+eL S x c);exact⟨ME ‹_› ‹_› ‹_› rfl,MF ‹_› ‹_› ‹_› rfl⟩
  ·show dD _ (eL S x c);exact⟨d0 ‹_› rfl,d3 ‹_› rfl⟩
 have kd:=key 0;exact⟨by have:=kd.aw;exact MH ‹_› ‹_› rfl,by have:=kd.lo;exact MG ‹_› ‹_› rfl,by have:=(key 1).aw;exact k0 ‹_› rfl,by have:=(key 5).aw;exact k0 ‹_› rfl⟩
theorem uf{af a7:List aI}(m:dn f5 af.reverse a7){k:Nat}(ai:k≤af.length)(c:Nat):cp (a7.take (af.length-k)) c=cp af c-cp (af.take k) c:=by
 erw[Yz m,←List.reverse_drop,J1];have:cp (af.take k++af.drop k) c=_:=nC _ _ c;rw[List.take_append_drop]at this
 lia
theorem Zg{af a7:List aI}(m:dn f5 af.reverse a7)(c:Nat):cp a7 c=cp af c:=by have h:=uf m (fx _) c;have l:=m.length;rw[ff]at l;rw[C6,←l,o7,L6]at h;erw[h];exact eP _
theorem Zh(a b c:Int):a-(b-c)=a-b+c:=by lia
theorem oX.KO{af:List aI}{r:Row}(a:oX af r):r.gs<af.length:=lS (gI (bR a.f0 a.dB) a.aM) a.ln
theorem oX.KP{af:List aI}{r:Row}(a:oX af r):r.last≤af.length-1:=xK (lS a.aM a.ln)
theorem Zi{hp:Int}{af a7:List aI}{R:List Row}(h:gn hp af R)(m:dn f5 af.reverse a7)(kf:eK hp 0 false a7=R.reverse.map (qg 0 af.length)):gn hp a7 (R.reverse.map (kS af.length)):=by
 have l:=m.length;replace l:=ff▸l;refine⟨fun r av=>?_,?_,?_⟩
 ·obtain⟨q,aE,rfl⟩:=f9.mp av;exact YF (h.at' q (lV.mp aE)) m
 ·erw[List.pairwise_map,aau];refine h.dh.imp_of_mem fun{r dz} av xu hp=>?_;have a:=jc (h.at' r av);have gT:=jc (h.at' dz xu)
  rcases hp with hp|⟨ay,au,z,po,pr,f,gm⟩
  ·exact .inl (Nat.sub_le_sub_left hp _)
  ·refine .inr ⟨congrArg (af.length- ·) au.symm,congrArg (af.length- ·) ay.symm,fun c=>?_,pr,po,ux (ey gm gT.KP) gm,ux (ey f (bR gT.dB gT.KP)) f⟩;show cp (a7.take (af.length-dz.gs)) c=cp (a7.take (af.length-dz.ge)) c;erw[uf m (c' gT.KO),uf m (c' gT.ln),ay,au,z c]
 ·unfold b6;erw[kf,l,jP];refine congrArg (· ++_) (nO fun r av=>?_);show(0+_,_,_)=(_,_,_)
  erw[nN];rfl
theorem xv{α:Type}{R:List α}{f:α→α}{j:Nat}{r:α}(a':R[j]? =I r):(R.reverse.map f)[R.length-1-j]? =I (f r):=by have ar:=(d7.mp a').1;erw[lP,LV (Kc ar),xR (xK ar),a'];rfl
theorem Zj{n i:Nat}:n+1-(i+1)-1=n-1-i:=by rw[CK,Ly]
theorem KQ{n i:Nat}(h:i<n):n+1-(i+1)=n-1-i+1:=by erw[CK,Ly,CL (uk h)]
theorem Zk{af a7:List aI}{R:List Row}(m:dn f5 af.reverse a7)(el:∀r,r∈R→r.ge≤af.length){a:Nat}(aB:a≤R.length)(c:Nat):h1 a7 (R.reverse.map (kS af.length)) (R.length+1-a) c=cp af c-jM af R a c:=by
 induction a using fe with
 |zero=>erw[C6,ud,jd (by erw[bF,ff];exact bE _)];show cp a7 c=_-0;erw[Zg m,rS]
 |succ i=>have av:=gp (Nat.lt_of_succ_le aB);erw[KQ aB,ud,xv av,ub,av];show cp (a7.take (af.length-R[i].ge)) c+(if c=0 then R[i].post else 0)=cp af c-(cp (af.take R[i].ge) c-(if c=0 then R[i].post else 0));erw[uf m (el _ (fI av))];exact(Zh _ _ _).symm
theorem Zl{af a7:List aI}{R:List Row}(m:dn f5 af.reverse a7)(el:∀r,r∈R→r.gs≤af.length){b:Nat}(h0:0<b)(ae:b≤R.length+1)(c:Nat):jM a7 (R.reverse.map (kS af.length)) (R.length+1-b) c=cp af c-h1 af R b c:=by
 obtain⟨j,rfl⟩:=mC.mpr h0;erw[ud]
 rcases rW (o6 ae)with a'|rfl
 ·have av:=gp a';erw[KQ a',ub,xv av,av];show cp (a7.take (af.length-R[j].gs)) c-(if c=0 then R[j].pre else 0)=cp af c-(cp (af.take R[j].gs) c+(if c=0 then R[j].pre else 0));erw[uf m (el _ (fI av)),Int.sub_sub]
 ·erw[kY,jd (bE _)];exact(rY _).symm
theorem Zm(v x y g:Int):v-x-(v-y)+g=y-x+g:=by lia
theorem Zn{hp:Int}{af a7:List aI}{R:List Row}(h:gn hp af R)(h':gn hp a7 (R.reverse.map (kS af.length)))(m:dn f5 af.reverse a7){a b:Nat}(g:c3)(du:a<b)(ae:b≤R.length+1)(c:Nat):
  gj g (nodes a7 (b6 hp a7) (R.length+1-b)) (nodes a7 (b6 hp a7) (R.length+1-a)) c=h1 af R b c-jM af R a c+g c:=by
 have ar:(R.reverse.map (kS af.length)).length=R.length:=by erw[bF,ff]
 have aB:=ey du ae;erw[Co h' g (ux aB du) (by erw[ar];exact rX ..),Zk m (fun r av=>c' (jc (h.at' r av)).ln) (kh aB),Zl m (fun r av=>c' (jc (h.at' r av)).KO) (gI (fx _) du) ae];exact Zm _ _ _ _
structure b1(D:bX)(bp aR af a7:List aI):Prop where
 told:Told D bp aR af
 b:Cr af D.ws D.gs D.rs
 rws:gn D.S.hp (af++aR) D.rs
 nG:gn D.S.hp a7 (D.rs.reverse.map (kS (af++aR).length))
 qk:dn f5 (af++aR).reverse a7
 en:D.en=(af++aR).length
 gr:D.gr=qd D.T D.S
 ok:iL D
 fA:t5 D.T D.S bp aR D.ws.length
 xw:jN (af++aR)
 ln:(af++aR).length≤89
theorem KR{T:Tl}{S:cj}{bp aR af:List aI}{ws:List Int}{gs:List (List bb)}{rs:List Row}{cT n:Nat}(cc:t5 T S bp aR cT)(l:Lay S.hp bp af ws gs rs)(aA:ws.length=cT):iL ⟨T,S,ws,gs,rs,qd T S,n⟩:=by
 refine eA fun cF=>?_;obtain⟨t6,lJ,lK⟩:=cc.eI;refine cF ?_;have lW:=rG lJ;have g4:=rG cc.ay;have f:=Kw l;have gz:=Cs cc.fQ.wV cc.fQ.rx (by erw[lK];exact lW.1.rev) (by erw[lK,ff];exact qe lJ) l;have b0:=cc.JX;have hw:=f.w;refine⟨hw,by show ws.length≤5;lia,f.g,?_,gz.g2,gz.a4,gz.dh,fun r av=>?_,lW.2.1,g4.2.1,lW.2.2,g4.2.2,fun g aK=>?_,bE _⟩
 ·have:=gz.b3;show rs.length≤13;lia
 ·have:=gz.pr r av;exact⟨⟨this.dA,this.cL⟩,this.kK,this.eu⟩
 ·simp only[qd,ec,kZ,or_false]at aK
  rcases aK with rfl|rfl|rfl
  ·exact⟨dZ 0,by show(0:Int)≤20;decide,cc.x0,cc.c2,dZ 0,by show(0:Int)≤3;decide,dZ 0,by show(0:Int)≤20;decide⟩
  ·exact cc.fQ.ls
  ·exact cc.fQ.rs
theorem Zo{T:Tl}{S:cj}{bp aR af a7:List aI}{ws:List Int}{gs:List (List bb)}{rs:List Row}{cT:Nat}(cc:t5 T S bp aR cT)(l:Lay S.hp bp af ws gs rs)(aA:ws.length=cT)(m:dn f5 (af++aR).reverse a7):b1 ⟨T,S,ws,gs,rs,qd T S,(af++aR).length⟩ bp aR af a7:=by
 refine eA fun cF=>?_;obtain⟨t6,lJ,lK⟩:=cc.eI;refine cF ?_;have f:=Kw l;have gz:=Cs cc.fQ.wV cc.fQ.rx (by erw[lK];exact(rG lJ).1.rev) (by erw[lK,ff];exact qe lJ) l;have qa:=Yv l (fun i=>by erw[lK];exact J9 lJ _ i) (fun i bh=>by erw[lK,L7];exact J8 lJ _ i bh);have old:=fun r av=>jc (f.at' r av);have tk:∀k,k≤af.length→(af++aR).take k=af.take k:=fun k ai=>r2 ai;have el:gn S.hp (af++aR) rs:=by
  refine⟨fun r av=>Ko (f.at' r av),f.dh.imp_of_mem fun{a b} aB ae h=>?_,?_⟩
  ·have aa:=old a aB;have eu:=aa.ln;have gc:=aa.f0;have hg:=aa.dB;have ry:=aa.aM
   rcases h with h|⟨ab,aq,ba,b0,d2,fk,pH⟩
   ·exact .inl h
   ·exact .inr ⟨ab,aq,fun c=>by erw[tk _ (c' ‹_›),tk _ (by lia)];exact ba c,b0,d2,fk,pH⟩
  ·unfold b6;erw[nE,qa.f,J8 cc.ay,ei]
 have xc:=qe cc.ay;refine⟨⟨f,fun c=>by erw[lK,J1];exact Kr lJ c,Kr cc.ay⟩,gz,el,Zi el m ?_,m,rfl,rfl,KR cc l aA,by erw[aA];exact cc,(⟨gz.it,gz.k,gz.qj⟩:jN af).app (rG cc.ay).1,?_⟩
 ·erw[Yy m,nS,nE,J9 cc.ay,qa.r,nQ,ff,nN];exact Cd (fun r av=>qa.l r (lV.mp av)) (by erw[b4];lia) (by erw[b4];exact f6 _ _)
 ·have:=gz.ln;have:=cc.JX;erw[b4];lia
noncomputable def eh(v:c3):Int:=v 0-v 5
theorem Zp(a b c d:Int):a-b+(c-d)=a+c-(b+d):=by lia
theorem KS(a b c d e f p:Int):a+c+e+p-(b+d+f+0)=a-b+(c-d)+(e-f)+p:=by lia
theorem xx{m A B p KU KV q:Int}{d:Nat}(aa:A+8*d≤KU)(hd:1≤d)(ab:B≤KV)(h:p≤q+8):m+A+B+p≤m+KU+KV+q:=by lia
theorem Zq(a b c d e f p q:Int):a+c+e+p-(b+d+f+q)=a-b+(c-d)+(e-f)+(p-q):=by lia
theorem Zr{z w k:Int}(h0:0≤k)(h:z-w>0):w-k≤z:=by lia
theorem KW{z w k:Int}: -(z-w)>k↔ ¬w-k≤z:=⟨fun h=>by lia,fun h=>by lia⟩
theorem fit_le{z:Int}{v:c3}(k:0≤v 5):(e8 z v).1≤10000↔eh v≤z:=by
 unfold e8;refine bZ (fun h:z-v 0>0=>?_) (fun h=>?_)
 ·erw[decide_eq_true h];refine⟨fun ag=>Zr k h,fun ag=>?_⟩;cases nr v
  ·cases U (eJ (z-v 0) (v 1)>99)<;>exact((tM (e:=z-v 0) (w:=v 1) (jO h)).2)
  ·exact(by decide:(0:Int)≤10000)
 ·erw[decide_eq_false h];refine bZ (fun e: -(z-v 0)>v 5=>?_) (fun e=>?_)
  ·erw[decide_eq_true e];exact⟨fun ab=>absurd ab (by decide:¬(10001:Int)≤10000),fun ab=>absurd ab (KW.mp e)⟩
  ·erw[decide_eq_false e];exact⟨fun ag=>CQ.mp fun n=>e (KW.mpr n),fun ag=>(tM (Int.neg_nonneg_of_nonpos (ez.mp h))).2⟩
theorem Cx:∀{l:List bb},(∀g,g∈l→jF g)→0≤eh (cO l):=by
 intro aT
 induction aT with
 |nil=>intro _;exact dZ 0
 |cons g r aD=>intro h;have aG:=aD fun x aC=>h x (.tail _ aC);have aK:=h g (.head _);show 0≤cO (g::r) 0-cO (g::r) 5;erw[lI,lI,J2,Ca aK.b.a0];exact cZ (r1 (aav aK.k) aG) (nR (Zp _ _ _ _))
theorem Zs{A X Y w:Int}{d:Nat}(h:A+8*d≤X-Y)(hw:8≤w):A+8*((d+1:Nat):Int)≤X+w-(Y+0):=by lia
theorem Zt{A X Y a b:Int}(h:A≤X-Y)(ab:0≤a-b):A≤X+a-(Y+b):=by lia
theorem Zu{ws:List Int}(h:∀w,w∈ws→8≤w∧w≤40){k:Nat}:∀d:Nat,k+d≤ws.length→eh (eO ws k)+8*d≤eh (eO ws (k+d)):=by
 intro eW
 induction eW with
 |zero=>intro _;exact nR (eP _)
 |succ d aD=>intro ai;show _≤eO ws (k+d+1) 0-eO ws (k+d+1) 5;erw[xm (k:=k+d) ai,xm (k:=k+d) ai,ua,ua];exact Zs (aD (xX ai)) ((h _ (fI (get_map (l:=ws) (k:=k+d) ai))).1)
theorem Zv{gs:List (List bb)}(h:∀l,l∈gs→∀g,g∈l→jF g){k:Nat}:∀d,k+d≤gs.length→eh (e0 gs k)≤eh (e0 gs (k+d)):=by
 intro eW
 induction eW with
 |zero=>intro _;exact dZ _
 |succ d aD=>intro ai;show _≤e0 gs (k+d+1) 0-e0 gs (k+d+1) 5;erw[xn (k:=k+d) ai,xn (k:=k+d) ai];exact Zt (aD (xX ai)) (Cx (h _ (fI (BS (l:=gs) (k:=k+d) ai))))
section
variable{D:bX}{bp aR af a7:List aI}
theorem b1.KX(h:b1 D bp aR af a7){j:Nat}(a':j<D.rs.length)(c:Nat):h1 (af++aR) D.rs (j+1) c=cp bp c+eO D.ws ((D.row j).g+1) c+e0 D.gs (D.row j).g c+(if c=0 then(D.row j).pre else 0):=by refine bC (fun ay au=>?_) (xp (hZ a'));erw[h.told.Cq (c' a'),ay,au,xo]
theorem b1.KY(h:b1 D bp aR af a7)(c:Nat):h1 (af++aR) D.rs (D.rs.length+1) c=cp bp c+eO D.ws D.ws.length c+e0 D.gs D.gs.length c+cO D.T.ay c:=by refine bC (fun ay au=>?_) (xq (D:=D));erw[h.told.Cq (bE _),ay,au,h.told.f.w];rfl
theorem b1.KZ(h:b1 D bp aR af a7){j:Nat}(a':j<D.rs.length)(c:Nat):jM (af++aR) D.rs (j+1) c=cp bp c+eO D.ws ((D.row j).g+1) c+e0 D.gs ((D.row j).g+1) c-(if c=0 then(D.row j).post else 0):=by have av:=hZ a';have ay:D.lo (fH (j+1))=(D.row j).g+1:=congrArg (fun o:Option Row=>o.elim 0 (·.g+1)) av;have au:D.kP (fH (j+1))=[f3 (D.row j).post]:=congrArg (fun o:Option Row=>o.elim D.T.eI fun r=>[f3 r.post]) av;erw[h.told.KC a',ay,au,xo]
theorem b1.a4(h:b1 D bp aR af a7){i j:Nat}(iM:i<j)(a':j<D.rs.length):(D.row i).g<(D.row j).g∨((D.row j).g=(D.row i).g∧(D.row i).pre=0∧(D.row j).pre=0∧(D.row i).post=0∧(D.row j).post=0):=by
 have aw:=hZ (D:=D) (i:=i) (lS ‹_› ‹_›);have:Cm D.gs (D.row i) (D.row j):=by
  have:=C4.mp h.told.f.a4 i j (lS ‹_› ‹_›) a' iM
  rwa [(d7.mp aw).2,(d7.mp (hZ a')).2]at this
 rcases this with aa|⟨aa,_,ab⟩
 ·exact .inl aa
 ·exact .inr ⟨aa,ab⟩
theorem b1.row(h:b1 D bp aR af a7){j:Nat}(a':j<D.rs.length):xr (D.row j)∧(D.row j).g<D.gs.length:=by have hm:=fI (hZ a');exact⟨h.b.pr _ hm,h.told.f.g _ hm⟩
theorem b1.K0(h:b1 D bp aR af a7){j:Nat}(a':j<D.rs.length):eh (h1 (af++aR) D.rs (j+1))=eh (cp bp)+eh (eO D.ws ((D.row j).g+1))+eh (e0 D.gs (D.row j).g)+(D.row j).pre:=by unfold eh;rw[h.KX a',h.KX a'];exact KS _ _ _ _ _ _ _
theorem b1.K1(h:b1 D bp aR af a7){j:Nat}(a':j<D.rs.length):eh (jM (af++aR) D.rs (j+1))=eh (cp bp)+eh (eO D.ws ((D.row j).g+1))+eh (e0 D.gs ((D.row j).g+1))+ -(D.row j).post:=by unfold eh;rw[h.KZ a',h.KZ a'];exact KS _ _ _ _ _ _ (-(D.row j).post)
theorem b1.Zw(h:b1 D bp aR af a7):eh (h1 (af++aR) D.rs (D.rs.length+1))=eh (cp bp)+eh (eO D.ws D.ws.length)+eh (e0 D.gs D.gs.length)+eh (cO D.T.ay):=by unfold eh;rw[h.KY,h.KY];exact Zq _ _ _ _ _ _ _ _
theorem b1.xy(h:b1 D bp aR af a7){i j:Nat}(iM:i<j)(a':j≤D.ws.length):eh (eO D.ws i)+8*(j-i:Nat)≤eh (eO D.ws j)∧1≤j-i:=by have:=Zu h.ok.dh (k:=i) (j-i) (by erw[mG (c' iM)];exact a');rw[mG (c' iM)]at this;exact⟨this,uk iM⟩
theorem b1.xA(h:b1 D bp aR af a7){i j:Nat}(iM:i≤j)(a':j≤D.gs.length):eh (e0 D.gs i)≤eh (e0 D.gs j):=by
 have:=Zv h.ok.a4 (k:=i) (j-i) (by erw[mG iM];exact a')
 rwa [mG iM]at this
theorem b1.Zx(h:b1 D bp aR af a7){t b:Nat}(h0:0<t)(ae:t<b)(ic:b≤D.rs.length+1):eh (h1 (af++aR) D.rs t)≤eh (h1 (af++aR) D.rs b):=by
 obtain⟨i,rfl⟩:=mC.mpr h0;obtain⟨j,rfl⟩:=mC.mpr (lS h0 ae);have iM:=rO ae;have aw:=ey iM (o6 ic);obtain⟨bi,gi⟩:=h.row aw;have hw:=h.told.f.w;have ug:∀{q:Int},0≤q→(D.row i).pre≤q+8:=fun aE=>cZ bi.cL (cZ (by decide) (kn aE 8));erw[h.K0 aw];refine eF (CR j D.rs.length) (fun a'=>?_) (fun a'=>?_)
 ·obtain⟨Cy,rI⟩:=h.row a';erw[h.K0 a']
  rcases h.a4 iM a' with aK|⟨e,ay,au,_⟩
  ·obtain⟨hR,d⟩:=h.xy (C5 aK) (by erw[hw];exact jf (c' rI));exact xx hR d (h.xA (c' aK) (c' rI)) (ug Cy.dA)
  ·erw[e,ay,au];exact dZ _
 ·obtain rfl:j=D.rs.length:=rU (o6 ic) a';erw[h.Zw];obtain⟨hR,d⟩:=h.xy (i:=(D.row i).g+1) (j:=D.ws.length) (by erw[hw];exact C5 gi) (bE _);exact xx hR d (h.xA (c' gi) (bE _)) (ug (Cx h.ok.ay))
theorem b1.Zy(h:b1 D bp aR af a7){a t:Nat}(md:a<t)(a5:t≤D.rs.length):eh (jM (af++aR) D.rs a)≤eh (jM (af++aR) D.rs t):=by
 obtain⟨j,rfl⟩:=mC.mpr (gI (fx a) md);obtain⟨Cy,rI⟩:=h.row a5;have K2:(D.row j).g+1≤D.ws.length:=by erw[(h.told.f.w)];exact jf (c' rI)
 have ug:∀{p:Int},p≤0→p≤ -(D.row j).post+8:=fun hp=>cZ hp (by have:=Cy.eu;lia);erw[h.K1 a5]
 induction a using fe with
 |zero=>obtain⟨hR,d⟩:=h.xy (i:=0) (ji _) K2;have eI:=congrArg eh (funext h.told.eI);refine cZ (b:=eh (cp bp)+0+0+0) ?_ (xx hR d (h.xA (i:=0) (fx _) rI) (ug (dZ 0)));erw[eI,eP,eP,eP];exact Cx h.ok.eI
 |succ i=>
  have iM:=rO md;have aw:=lS iM a5;obtain⟨bi,gi⟩:=h.row aw;erw[h.K1 aw]
  rcases h.a4 iM a5 with aK|⟨e,_,_,ay,au⟩
  ·obtain⟨hR,d⟩:=h.xy (C5 aK) K2;exact xx hR d (h.xA (jf (c' aK)) rI) (ug (L8 bi.kK))
  ·erw[e,ay,au];exact dZ _
end
noncomputable abbrev pr(D:bX)(af:List aI)(S:cj):bM:=(kb af S 0 0 D.T.z D.T.most D.T.x false).par
def nH(af:List aI)(R:List Row)(g:c3)(a b:Nat):c3:=fun c=>h1 af R b c-jM af R a c+g c
theorem K3(i:Int):p4 i≤10000:=by unfold p4;refine Mine.eT (fun h=>?_) (fun h=>?_)<;>lia
theorem Zz{z:Int}{v:c3}(ab:0<v 2)(h:(e8 z v).1≤10000):2≤(e8 z v).2∧(e8 z v).2≤3:=by
 have aw:nr v=true:=by unfold nr;erw[decide_eq_false (show¬v 2=0 by lia)];rfl
 unfold e8 at h⊢;rw[aw]at h⊢;cases hd:U (z-v 0>0)with
 |true=>exact⟨by show(2:Int)≤2;decide,by show(2:Int)≤3;decide⟩
 |false=>
  rw[hd]at h;cases he:U (-(z-v 0)>v 5)with
  |true=>rw[he]at h;exact absurd h (by show¬(10001:Int)≤10000;decide)
  |false=>show 2≤(bif U (eJ (-(z-v 0)) (v 5)>12)then(3:Int)else 2)∧(bif U (eJ (-(z-v 0)) (v 5)>12)then(3:Int)else 2)≤3;cases U (eJ (-(z-v 0)) (v 5)>12)<;>decide
theorem ZA{z:Int}{v:c3}(aa:¬z-v 0>0)(ab: -(z-v 0)>v 5):(e8 z v).1=10001:=by unfold e8;erw[decide_eq_false aa,decide_eq_true ab];rfl
section
variable{D:bX}{af:List aI}{R:List Row}{S:cj}
theorem K4(h:gn S.hp af R):(pr D af S).M=R.length+1:=by show(b6 S.hp af).length=_;erw[h.kf,b4,bF];rfl
theorem xB(h:gn S.hp af R){a b:Nat}(du:a<b)(ae:b≤R.length+1):e8 D.T.z (gj (eL S D.T.x) (nodes af (b6 S.hp af) a) (nodes af (b6 S.hp af) b))=e8 D.T.z (nH af R (eL S D.T.x) a b):=by erw[show gj (eL S D.T.x) (nodes af (b6 S.hp af) a) (nodes af (b6 S.hp af) b)=nH af R (eL S D.T.x) a b from funext fun c=>Co h _ du ae c]
structure xC(D:bX)(S:cj)(af:List aI):Prop where
 it:∀it,it∈af→kU it
 n:af.length≤90
 ls:hI S.ls
 rs:hI S.rs
 x0:0≤D.T.x
 c2:D.T.x≤20
 da:36≤D.T.z
 g5:D.T.z≤75
theorem ZC(aA:af.length≤90)(j:Nat):(nodes af (b6 S.hp af) j).st≤90:=by
 induction j using fe with
 |zero=>show(0:Int)≤90;decide
 |succ j=>
  show(match(b6 S.hp af)[j]? with|some q=>node af q|none=>ka).st≤90
  cases aE:(b6 S.hp af)[j]? with
  |none=>show(0:Int)≤90;decide
  |some q=>have:=IT (IS (fI aE)).le;show((gY af q.1:Nat):Int)≤90;exact x9 ‹_› ‹_› rfl
theorem K5(h:gn S.hp af R)(d:xC D S af){a b:Nat}(ae:R.length+1<b):(pr D af S).bad a b=10001:=by
 show(e8 D.T.z (gj (eL S D.T.x) (nodes af (b6 S.hp af) a) (nodes af (b6 S.hp af) b))).1=_;erw[YW h ae];have aL:=ZC (S:=S) d.n a;have kd:=(xt d.it d.n (b6 S.hp af) a 0).b;have mi:=(xt d.it d.n (b6 S.hp af) a 5).b;have oI:=Cw d.ls d.rs d.x0 d.c2 0;have tL:=Cw d.ls d.rs d.x0 d.c2 5;generalize nodes af (b6 S.hp af) a=nd at aL kd mi⊢;generalize eL S D.T.x=g at oI tL⊢;have e:gj g nd ka=fun k=>ka.en k-nd.jD k+g k:=by unfold gj;erw[decide_eq_false (show¬nd.st>1000000 from ez.mpr (cZ aL (by decide)))];rfl
 have oN:993800≤ka.en 0-nd.jD 0+g 0:=kj (L9 kd.aw 1000000) oI.lo;have ZD:ka.en 5-nd.jD 5+g 5≤6200:=kj (L9 mi.lo 0) tL.aw;erw[e];exact ZA (ez.mpr (Int.sub_nonpos_of_le (cZ d.g5 (cZ (by decide) oN)))) ((Int.neg_sub ..).symm▸mB ZD (oZ (by decide) (um oN d.g5)))
noncomputable def oY(p:Int):Int:=bif U (p>0)then p*p else bif U (p> -10000)then-(p*p)else 0
structure ql(nd:fE)(len pc:Int)(ds en:Bool):Prop where
 b9:oY nd.b9=pc
 s:U (nd.sort=1)=(ds||en)
 p:U (nd.p=len)=en
noncomputable def qm(R:List Row):Nat→Int
 |0=>0
 |j+1=>(R[j]?).elim 0 fun r=>oY (gF r.b9)
noncomputable def kV(R:List Row):Nat→Bool
 |0=>false
 |j+1=>(R[j]?).elim false (·.cf)
theorem uh{R:List Row}{j:Nat}:qm R (j+1)=(R[j]?).elim 0 fun r=>oY (gF r.b9):=rfl
theorem rJ{R:List Row}{j:Nat}:kV R (j+1)=(R[j]?).elim false (·.cf):=rfl
def ZE(D:bX)(R:List Row)(S:cj)(bad:Nat→Nat→Int)(a b:Nat):Int:=lc (S.cS+bad a b)+(bif kV R a&&kV R b then S.dV else 0)
theorem K6(h:gn S.hp af R){j:Nat}{r:Row}(av:R[j]? =I r):ql (nodes af (b6 S.hp af) (j+1)) af.length (oY (gF r.b9)) r.cf false:=by
 have a:=jc (h.at' r (fI av));have eu:=a.ln;have gc:=a.dB;have hg:=a.aM;erw[uc h av];refine⟨rfl,?_,decide_eq_false ?_⟩
 ·show U ((bif r.cf then(1:Int)else 0)=1)=_;cases r.cf<;>rfl
 ·show¬((r.first:Nat):Int)=(af.length:Nat)
  lia
theorem K7(h:gn S.hp af R):ql (nodes af (b6 S.hp af) (R.length+1)) af.length 0 false true:=by erw[xj h];exact⟨rfl,rfl,decide_eq_true rfl⟩
theorem K8:ql (nodes af (b6 S.hp af) 0) af.length 0 false false:=⟨rfl,rfl,decide_eq_false (by show¬(-1:Int)=(af.length:Nat);lia)⟩
theorem K9(h:gn S.hp af R){j:Nat}(a':j≤R.length+1):ql (nodes af (b6 S.hp af) j) af.length (qm R j) (kV R j) (U (j=R.length+1)):=by
 induction j using fe with
 |zero=>erw[decide_eq_false (by lia)];exact K8
 |succ j=>
  erw[uh,rJ];cases av:R[j]? with
  |some r=>have:=(d7.mp av).1;erw[decide_eq_false (by lia)];exact K6 h av
  |none=>
   have:=xV.mp av;obtain rfl:j=R.length:=by lia
   erw[decide_eq_true rfl];exact K7 h
theorem K'{N:Nat→fE}{a b:Nat}{len bx bN:Int}{mY db bT cU:Bool}{cS dV bad:Int}(aB:ql (N a) len bx mY bT)(ae:ql (N b) len bN db cU)(aa:bT=false)(ab:cU=true→db=false):
  nt cS bad (N b).b9+(bif U ((N b).sort=1)&&U ((N a).sort=1)then bif U ((N b).p=len)then 0 else dV else 0)=lc (cS+bad)+(bif mY&&db then dV else 0)+bN:=by
 have ay:nt cS bad (N b).b9=lc (cS+bad)+bN:=by erw[←ae.b9];rfl
 erw[ay,aB.s,ae.s,ae.p,aa]
 induction cU using hL with
 |false=>cases mY<;>cases db<;>(simp only[LX,LZ,C7,lU,LL,cond_true,cond_false];exact CX _ _ _)
 |true=>erw[ab rfl];cases mY<;>(simp only[LX,xT,LZ,C7,lU,LL,cond_true,cond_false];exact CX _ _ _)
theorem La:kV R (R.length+1)=false∧qm R (R.length+1)=0:=by erw[uh,rJ,jd (bE _)];exact⟨rfl,rfl⟩
end
theorem dB{M a b:Nat}(h:a<b)(ae:b≤M):M-b<M-a:=ux (ey h ae) h
theorem gR.sym{P cn:bM}{g:Nat→Nat→Int}{pc:Nat→Int}(m:gR P cn g pc):gR cn P (fun a b=>g (P.M-b) (P.M-a)) fun j=>pc (P.M-j):=by
 have e:∀{a},a≤P.M→P.M-(P.M-a)=a:=xR;have qn:=m.M;have tN:∀{a b},a<b→b≤P.M→cn.bad a b=P.bad (P.M-b) (P.M-a)∧cn.fit a b=P.fit (P.M-b) (P.M-a)∧cn.cst a b=g (P.M-b) (P.M-a)+pc (P.M-b):=fun{a b} aa ab=>by have l:=dB aa ab;have r:=rX P.M a;have cY:=m.bad _ _ l r;have dt:=m.fit _ _ l r;have gw:=m.HS _ _ l r;rw[e ab,e (bR (c' aa) ab)]at cY dt gw;exact⟨cY,dt,gw⟩
 refine⟨qn.symm,m.A.symm,m.most.symm,fun a b aa ab=>?_,fun a b aa ab=>?_,fun t aa ab=>?_,fun a b aa ab=>?_,fun a b aa ab=>?_,m.HU,?_⟩
 ·rw[qn]at ab⊢;exact(tN aa ab).1.symm
 ·rw[qn]at ab⊢;exact(tN aa ab).2.1.symm
 ·rw[qn]at ab⊢;have:=m.hV _ (uk ab) (uC (gI (fx _) ab) aa);rw[e (c' ab)]at this;exact this.symm
 ·rw[qn]at ab;exact(tN aa ab).2.2
 ·rw[qn]at ab⊢;exact m.cst _ _ (dB aa ab) (rX ..)
 ·show pc (P.M-cn.M)=0;erw[qn,kY];exact m.HT
section
variable{D:bX}{bp aR af a7:List aI}{L:Int}
theorem ZF(S:cj)(x L:Int):eL (SL S.ex L) x=eL (SL S L) x:=by
 funext c
 unfold eL;erw[hr,hr,nB,nB,nB,nB];show da c+fR S.rs c+fR S.ls c+_=da c+fR S.ls c+fR S.rs c+_
 lia
theorem b1.qX(h:b1 D bp aR af a7):xC D (SL D.S L) (af++aR):=⟨h.xw.it,by have:=h.ln;exact yb ‹_›,h.fA.fQ.ls,h.fA.fQ.rs,h.fA.x0,h.fA.c2,h.fA.da,h.fA.g5⟩
theorem b1.Lb(h:b1 D bp aR af a7):xC D (SL D.S.ex L) a7:=by have l:=h.qk.length;rw[ff]at l;exact⟨Y' h.qk h.xw.rev.it,by have:=h.ln;exact x8 ‹_› ‹_› rfl,h.fA.fQ.rs,h.fA.fQ.ls,h.fA.x0,h.fA.c2,h.fA.da,h.fA.g5⟩
theorem b1.Cz(h:b1 D bp aR af a7){a b:Nat}(du:a<b)(ae:b≤D.rs.length+1):cO (D.line (fH a) (b-1))=nH (af++aR) D.rs (eL (SL D.S L) D.T.x) a b:=by
 funext c
 erw[Y5 h.told du ae c,h.gr];unfold nH;erw[show eL (SL D.S L) D.T.x c=eL D.S D.T.x c from rfl,X9];rfl
theorem b1.gz(h:b1 D bp aR af a7){a:Option Nat}{b:Nat}:∀g,g∈D.line a b→oR g:=JH h.ok JG (fun ag h=>h.b.gz) fun ag h=>h.gz
theorem b1.hA(h:b1 D bp aR af a7){a b:Nat}(du:a<b)(ae:b≤D.rs.length+1):iq D.T.z (D.line (fH a) (b-1))=((pr D (af++aR) (SL D.S L)).bad a b,(pr D (af++aR) (SL D.S L)).fit a b):=by erw[Yi h.gz,h.Cz (L:=L) du ae,←xB (S:=SL D.S L) h.rws du ae];rfl
theorem b1.mi(h:b1 D bp aR af a7){a b:Nat}(du:a<b)(ae:b≤D.rs.length+1):0≤nH (af++aR) D.rs (eL (SL D.S L) D.T.x) a b 5:=by erw[←h.Cz (L:=L) du ae];exact(Cc h.gz).qD
theorem b1.fits(h:b1 D bp aR af a7){a b:Nat}(du:a<b)(ae:b≤D.rs.length+1):(pr D (af++aR) (SL D.S L)).bad a b≤10000↔eh (nH (af++aR) D.rs (eL (SL D.S L) D.T.x) a b)≤D.T.z:=by erw[←fit_le (h.mi du ae),←xB (S:=SL D.S L) h.rws du ae];exact Iff.rfl
theorem ZG{p q r a b c:Int}:(p-q+r)-(a-b+c)=(p-a)-(q-b)+(r-c):=by lia
theorem CA{af:List aI}{R:List Row}{g:c3}{a b:Nat}:eh (nH af R g a b)=eh (h1 af R b)-eh (jM af R a)+eh g:=ZG
theorem b1.mono(h:b1 D bp aR af a7){a t b:Nat}(aa:a<t)(ab:t<b)(ae:b≤D.rs.length+1)(hf:(pr D (af++aR) (SL D.S L)).bad a b≤10000):(pr D (af++aR) (SL D.S L)).bad a t≤10000∧(pr D (af++aR) (SL D.S L)).bad t b≤10000:=by have e:=cZ (nR CA.symm) ((h.fits (L:=L) (lS aa ab) ae).mp hf);exact⟨(h.fits aa (uG ‹_› ‹_›)).mpr (cZ (nR CA) (cZ (kn (Lw (h.Zx (Di ‹_› rfl) ab ae) _) _) e)),(h.fits ab ae).mpr (cZ (nR CA) (cZ (kn (L9 (h.Zy aa (Dj ‹_› ‹_›)) _) _) e))⟩
theorem six{a b c d:Int}(aa:0≤a)(ab:b=6)(aq:0≤c)(ba:0≤d):0<a+b+c+d:=L' (L' (ab▸aaw aa (by decide)) aq) ba
theorem ZH{a b c d:Int}(aa:0≤a)(ab:0≤b)(aq:c=6)(ba:0≤d):0<a+b+c+d:=L' (aq▸aaw (r1 aa ab) (by decide)) ba
theorem b1.two(h:b1 D bp aR af a7)(ax:D.S.cu≠0){a b:Nat}(du:a<b)(ae:b≤D.rs.length+1)(he:a=0∨b=D.rs.length+1)(hf:(pr D (af++aR) (SL D.S L)).bad a b≤10000):2≤(pr D (af++aR) (SL D.S L)).fit a b∧(pr D (af++aR) (SL D.S L)).fit a b≤3:=by
 refine bC (fun eI ay=>?_) (h.fA.ad ax);have i4:(e8 D.T.z (nH (af++aR) D.rs (eL (SL D.S L) D.T.x) a b)).1≤10000:=by erw[←xB (S:=SL D.S L) h.rws du ae];exact hf
 have ab:0<nH (af++aR) D.rs (eL (SL D.S L) D.T.x) a b 2:=by
  erw[←h.Cz (L:=L) du ae];have q:∀l:List bb,(∀g,g∈l→g∈D.line (fH a) (b-1))→0≤cO l 2:=fun l ar=>(Cc fun g aK=>h.gz g (ar g aK)).ck;unfold bX.line at q⊢;erw[nD,nD,nD];have eu:=q D.gr fun g aK=>dR.mpr (.inl (dR.mpr (.inl (dR.mpr (.inl aK)))));have gc:=q (D.kP (fH a)) fun g aK=>dR.mpr (.inl (dR.mpr (.inl (dR.mpr (.inr aK)))));have hg:=q (D.jb (b-1)) fun g aK=>dR.mpr (.inl (dR.mpr (.inr aK)));have ry:=q _ fun g aK=>dR.mpr (.inr aK);have v6:cO [⟨0,6,1,0⟩] 2=6:=rfl
  rcases he with rfl|rfl
  ·have:cO (D.kP (fH 0)) 2=6:=by show cO D.T.eI 2=6;erw[eI];exact v6
   exact Mine.L.six eu this hg ry
  ·have:cO (D.jb (D.rs.length+1-1)) 2=6:=by unfold bX.jb;erw[lT,jd (bE _)];erw[ay];exact v6
   exact ZH eu gc this ry
 have:=Zz ab i4;rw[←xB (S:=SL D.S L) h.rws du ae]at this;exact this
end
theorem Lc{P:bM}{f:Int}(h:P.A≠0→2≤f∧f≤3):P.cu f 2=0:=by
 refine bZ (fun ax:P.A=0=>?_) (fun ax=>?_)
 ·show(if _ then P.A else 0)=0;erw[ax];exact ite_self _
 ·exact if_neg (kW.mpr (nK.mp (cZ (nR (xJ (aav (h ax).1))) (Lw (h ax).2 2))))
theorem Ld{D:bX}{af:List aI}{R:List Row}{S:cj}(h:gn S.hp af R):(pr D af S).hV (R.length+1)=true:=by show U ((nodes af (b6 S.hp af) (R.length+1)).b9= -10000)=true;erw[xj h];rfl
theorem CB{D:bX}{af:List aI}{R:List Row}{S:cj}(h:gn S.hp af R){j:Nat}{r:Row}(av:R[j]? =I r):(pr D af S).hV (j+1)=U (gF r.b9= -10000):=by show U ((nodes af (b6 S.hp af) (j+1)).b9= -10000)=_;erw[uc h av];rfl
theorem Le(P:bM)(L:Int)(h:P.cB=fun i=>bif U (L=0)then 1 else i):∀i j,P.cB i=P.cB j→P.cB (i+1)=P.cB (j+1):=by
 intro i j e;rw[h]at e⊢;revert e;cases U (L=0)
 ·intro e;have e:i=j:=e;erw[e]
 ·exact fun ag=>rfl
section
variable{D:bX}{bp aR af a7:List aI}{L:Int}
theorem b1.qo(h:b1 D bp aR af a7):(D.rs.reverse.map (kS (af++aR).length)).length=D.rs.length:=by erw[bF,ff]
theorem b1.M(h:b1 D bp aR af a7):(pr D (af++aR) (SL D.S L)).M=D.rs.length+1:=K4 (S:=SL D.S L) h.rws
theorem b1.hJ(h:b1 D bp aR af a7):(pr D a7 (SL D.S.ex L)).M=D.rs.length+1:=by erw[←h.qo];exact K4 (S:=SL D.S.ex L) h.nG
theorem b1.CC(h:b1 D bp aR af a7){a b:Nat}(du:a<b)(ae:b≤D.rs.length+1):e8 D.T.z (gj (eL (SL D.S.ex L) D.T.x) (nodes a7 (b6 D.S.hp a7) (D.rs.length+1-b)) (nodes a7 (b6 D.S.hp a7) (D.rs.length+1-a)))=e8 D.T.z (gj (eL (SL D.S L) D.T.x) (nodes (af++aR) (b6 D.S.hp (af++aR)) a) (nodes (af++aR) (b6 D.S.hp (af++aR)) b)):=by rw[ZF];refine congrArg (e8 D.T.z) (funext fun c=>?_);rw[Zn h.rws h.nG h.qk _ du ae,Co h.rws _ du ae]
theorem b1.Lf(h:b1 D bp aR af a7){j:Nat}(a':j≤D.rs.length+1):ql (nodes a7 (b6 D.S.hp a7) (D.rs.length+1-j)) a7.length (qm D.rs j) (kV D.rs j) (U (j=0)):=by
 induction j using fe with
 |zero=>have:=K7 (S:=SL D.S.ex 0) h.nG;rw[h.qo]at this;exact this
 |succ i=>
  erw[decide_eq_false (Nat.succ_ne_zero i),uh,rJ];cases av:D.rs[i]? with
  |some r=>have aw:=(d7.mp av).1;erw[show D.rs.length+1-(i+1)=(D.rs.length-1-i)+1 by exact Du ‹_›];exact K6 (S:=SL D.S.ex 0) (r:=kS (af++aR).length r) h.nG (xv av)
  |none=>have:=xV.mp av;erw[show D.rs.length+1-(i+1)=0 by exact CS (jf ‹_›)];exact K8 (S:=SL D.S.ex 0)
theorem b1.lL(h:b1 D bp aR af a7):gR (pr D (af++aR) (SL D.S L)) (pr D a7 (SL D.S.ex L)) (ZE D D.rs (SL D.S L) (pr D (af++aR) (SL D.S L)).bad) (qm D.rs):=by
 refine⟨h.hJ.trans h.M.symm,rfl,rfl,fun a b aa ab=>?_,fun a b aa ab=>?_,fun t aa ab=>?_,fun a b aa ab=>?_,fun a b aa ab=>?_,rfl,by rw[h.M];exact La.2⟩
 all_goals (rw[h.M]at*)
 ·exact congrArg CI (h.CC aa ab)
 ·exact congrArg Prod.snd (h.CC aa ab)
 ·obtain⟨i,rfl⟩:∃i,t=i+1:=⟨t-1,by exact Dh ‹_›⟩
  have av:=hZ (D:=D) (i:=i) (by exact kh ‹_›);rw[CB (S:=SL D.S L) h.rws av,show D.rs.length+1-(i+1)=(D.rs.length-1-i)+1 by exact Mz ‹_›];exact CB (S:=SL D.S.ex L) (r:=kS (af++aR).length (D.row i)) h.nG (xv av)
 ·exact K' (K9 (S:=SL D.S L) h.rws (by exact uG ‹_› ‹_›)) (K9 (S:=SL D.S L) h.rws ab) (decide_eq_false (by exact Mh ‹_› ‹_›)) fun e=>by rw[of_decide_eq_true e];exact La.1
 ·refine(K' (h.Lf ab) (h.Lf (c' (ey aa ab))) (decide_eq_false (by lia)) fun e=>by rw[of_decide_eq_true e];rfl).trans ?_
  show lc (D.S.cS+(e8 D.T.z (gj (eL (SL D.S.ex L) D.T.x) (nodes a7 (b6 D.S.hp a7) (D.rs.length+1-b)) (nodes a7 (b6 D.S.hp a7) (D.rs.length+1-a)))).1)+(bif kV D.rs b&&kV D.rs a then D.S.dV else 0)+qm D.rs a=_;rw[h.CC (L:=L) aa ab,Bool.and_comm];rfl
theorem b1.Lg(h:b1 D bp aR af a7){a b:Nat}(hf:(pr D (af++aR) (SL D.S L)).bad a b≤(pr D (af++aR) (SL D.S L)).most):b≤D.rs.length+1∧(pr D (af++aR) (SL D.S L)).bad a b≤10000:=by
 have:(pr D (af++aR) (SL D.S L)).most≤10000:=K3 D.T.most;refine⟨?_,cZ ‹_› ‹_›⟩;refine bZ (fun ae:b≤D.rs.length+1=>?_) (fun ae=>?_)
 ·exact ae
 ·have:=K5 (S:=SL D.S L) (a:=a) (b:=b) h.rws h.qX (Dg ‹_›);lia
theorem b1.Lh(h:b1 D bp aR af a7){a b:Nat}(hf:(pr D a7 (SL D.S.ex L)).bad a b≤(pr D a7 (SL D.S.ex L)).most):b≤D.rs.length+1∧(pr D a7 (SL D.S.ex L)).bad a b≤10000:=by
 have:(pr D a7 (SL D.S.ex L)).most≤10000:=K3 D.T.most;refine⟨?_,cZ ‹_› ‹_›⟩;refine bZ (fun ae:b≤D.rs.length+1=>?_) (fun ae=>?_)
 ·exact ae
 ·have:=K5 (S:=SL D.S.ex L) (a:=a) (b:=b) h.nG h.Lb (by erw[h.qo];exact Dg ‹_›);lia
theorem b1.kg(h:b1 D bp aR af a7):hE (pr D (af++aR) (SL D.S L)):=by
 refine⟨fun a b=>⟨p1.f0,p1.f1⟩,h.fA.fQ.BD,by erw[h.M];exact Ld (S:=SL D.S L) h.rws,by erw[h.M];exact ji _,fun a t b aa ab hf=>?_,Le _ L rfl,fun b ae hf=>Lc fun ax=>?_⟩
 ·refine bC (fun ae aq=>?_) (h.Lg hf);exact(h.mono aa ab ae aq).1
 ·refine bC (fun ic aq=>?_) (h.Lg hf);exact h.two ax ae ic (.inl rfl) aq
theorem b1.back(h:b1 D bp aR af a7){a b:Nat}(aa:a<b)(ab:b≤D.rs.length+1):(pr D a7 (SL D.S.ex L)).bad a b=(pr D (af++aR) (SL D.S L)).bad (D.rs.length+1-b) (D.rs.length+1-a)∧(pr D a7 (SL D.S.ex L)).fit a b=(pr D (af++aR) (SL D.S L)).fit (D.rs.length+1-b) (D.rs.length+1-a):=by have m:=gR.sym (h.lL (L:=L));have e:=m.bad a b aa (by rw[h.hJ];exact ab);have f:=m.fit a b aa (by rw[h.hJ];exact ab);rw[h.hJ]at e f;exact⟨e.symm,f.symm⟩
theorem b1.lM(h:b1 D bp aR af a7):hE (pr D a7 (SL D.S.ex L)):=by
 refine⟨fun a b=>⟨p1.f0,p1.f1⟩,h.fA.fQ.BD,?_,by erw[h.hJ];exact ji _,fun a t b aa ab hf=>?_,Le _ L rfl,fun b ae hf=>Lc fun ax=>?_⟩
 ·erw[h.hJ,←h.qo];exact Ld (S:=SL D.S.ex L) h.nG
 ·refine bC (fun ae aq=>?_) (h.Lh hf);rw[(h.back (lS aa ab) ae).1]at aq;have a5:=bR (c' ab) ae;erw[(h.back aa a5).1];exact(h.mono (dB ab ae) (dB aa a5) (rX ..) aq).2
 ·refine bC (fun ic aq=>?_) (h.Lh hf);refine bC (fun e f=>?_) (h.back (L:=L) ae ic);rw[e,C6]at aq;erw[f,C6];exact h.two ax (uC (ji _) ae) (bE _) (.inr rfl) aq
end
noncomputable def hK(p:List Nat):List Nat:=p.reverse.map (· -1)
theorem xD{b:Nat}{p:List Nat}:hK (b::p)=hK p++[b-1]:=by unfold hK;erw[mE,fy];rfl
noncomputable def rK:Option Nat→List Nat→Option Nat
 |a,[]=>a
 |_,b::r=>rK (I b) r
noncomputable def xE(D:bX):Option Nat→Int→List Nat→Int
 |_,f,[]=>f
 |a,_,b::r=>xE D (I b) (iq D.T.z (D.line a b)).2 r
theorem ZI{D:bX}{c:Nat}:∀(l:List Nat) (a:Option Nat) (f:Int),D.cost a f (l++[c])=D.cost a f l+D.step (rK a l) c (xE D a f l):=by
 intro aT
 induction aT with
 |nil=>intro a f;exact rP _ _
 |cons b r aD=>intro a f;show D.step a b f+D.cost (I b) _ (r++[c])=D.step a b f+D.cost (I b) _ r+_;rw[aD,qx];rfl
theorem ZJ{D:bX}{c:Nat}:∀(l:List Nat) (a:Option Nat),oS D a l→BY D (rK a l) c→oS D a (l++[c]):=by
 intro aT
 induction aT with
 |nil=>intro _ _ s;exact⟨s,trivial⟩
 |cons _ r aD=>intro _ h s;exact⟨h.1,aD _ h.2 s⟩
theorem ZK{c:Nat}:∀(l:List Nat) (a:Option Nat),rK a (l++[c])=I c:=by
 intro aT
 induction aT with
 |nil=>intro _;exact rfl
 |cons _ r aD=>intro _;exact aD _
theorem ZL{D:bX}{c:Nat}:∀(l:List Nat) (a:Option Nat) (f:Int),xE D a f (l++[c])=(iq D.T.z (D.line (rK a l) c)).2:=by
 intro aT
 induction aT with
 |nil=>intro _ _;exact rfl
 |cons _ r aD=>intro _ _;exact aD _ _
theorem ZM(p:Int):rA p=oY (gF p):=by
 delta rA gF;refine bZ (fun h:p> -10000=>?_) (fun h=>?_)
 ·erw[decide_eq_true h,if_neg (by lia)];delta oY;refine bZ (fun h0:p>0=>?_) (fun h0=>?_)
  ·erw[decide_eq_true h0];show p*(p.natAbs:Nat)=p*p;erw[show(p.natAbs:Int)=p by exact Dm ‹_›]
  ·erw[decide_eq_false h0,decide_eq_true h];show p*(p.natAbs:Nat)= -(p*p);erw[show(p.natAbs:Int)= -p by exact MK ‹_›,Int.mul_neg]
 ·erw[decide_eq_false h];refine Mine.eT (fun h=>?_) (fun h=>?_)
  ·rfl
  ·erw[show p= -10000 by exact Mn ‹_› ‹_›];rfl
theorem ZN{c:Int}(h:0≤c):w3 c=lc c:=by delta w3 lc;erw[show(c.natAbs:Int)=c by exact ML ‹_›]
theorem ZO(a:Nat):nA (fH a)=a:=by cases a<;>rfl
section
variable{D:bX}{bp aR af a7:List aI}{L:Int}
theorem ZP{a b:Nat}(du:a<b)(ae:b≤D.rs.length+1):(bif U (b-1<D.rs.length)then rA (D.row (b-1)).b9+(D.to L).dV (fH a) (b-1)else 0)=(bif kV D.rs a&&kV D.rs b then D.S.dV else 0)+qm D.rs b:=by
 obtain⟨j,rfl⟩:∃j,b=j+1:=⟨b-1,Dh ‹_›⟩
 erw[lT];refine bZ (fun a':j<D.rs.length=>?_) (fun a'=>?_)
 ·erw[decide_eq_true a',uh,rJ,hZ a',ZM];show oY (gF (D.row j).b9)+(D.to L).dV (fH a) j=(bif kV D.rs a&&(D.row j).cf then D.S.dV else 0)+oY (gF (D.row j).b9);have:(D.to L).dV (fH a) j=bif kV D.rs a&&(D.row j).cf then D.S.dV else 0:=by
   induction a using fe with
   |zero=>rfl
   |succ i=>erw[rJ,hZ (D:=D) (i:=i) (uG ‹_› ‹_›)];rfl
  erw[this,rP]
 ·erw[decide_eq_false a',uh,rJ,jd (uE ‹_›),aax,aax,C7];rfl
theorem b1.step(h:b1 D bp aR af a7){a b:Nat}{f:Int}(du:a<b)(ae:b≤D.rs.length+1):(D.to L).step (fH a) (b-1) f=(pr D (af++aR) (SL D.S L)).cst a b+(pr D (af++aR) (SL D.S L)).cu ((pr D (af++aR) (SL D.S L)).fit a b) f:=by
 erw[(h.lL (L:=L)).cst a b du (by erw[h.M];exact ae)];unfold bX.step;erw[h.hA (L:=L) du ae,ZP du ae,ZN (c:=D.S.cS+((pr D (af++aR) (SL D.S L)).bad a b,(pr D (af++aR) (SL D.S L)).fit a b).1) (r1 h.fA.fQ.BC p1.lW)];have e:(bif U ((((pr D (af++aR) (SL D.S L)).fit a b-f).natAbs:Nat)>(1:Int))then D.S.cu else 0)=(pr D (af++aR) (SL D.S L)).cu ((pr D (af++aR) (SL D.S L)).fit a b) f:=by
  unfold bM.cu;generalize (pr D (af++aR) (SL D.S L)).fit a b-f=x;refine bZ (fun aC:1<x.natAbs=>?_) (fun aC=>?_)
  ·erw[if_pos aC,decide_eq_true (by exact mH ‹_›)];rfl
  ·erw[if_neg aC,decide_eq_false (by exact Dx ‹_›)];rfl
 erw[e];have as:∀x y z w:Int,x+(y+z)+w=x+y+z+w:=fun x y z w=>by lia
 exact as _ _ _ _
structure ZQ(D:bX)(p:List Nat)(b:Nat)(f d:Int):Prop where
 ch:oS D J (hK p)
 cost:D.cost J 2 (hK p)=d
 gm:rK J (hK p)=fH b
 lf:xE D J 2 (hK p)=f
set_option tactic.hygienic true in
theorem b1.Li(h:b1 D bp aR af a7){p:List Nat}{b:Nat}{k f d:Int}(hp:fB (pr D (af++aR) (SL D.S L)) p b k f d):b≤D.rs.length+1→ZQ (D.to L) p b f d:=by
 induction hp with
 |root=>intro _;exact⟨trivial,rfl,rfl,rfl⟩
 |step aE lt ok m7 aG=>
  rename_i p a k f d b;intro ae;obtain⟨cY,dt,gw,lx⟩:=aG (uG ‹_› ‹_›);have ar:((iq D.T.z (D.line (fH a) (b-1))).1=_∧(iq D.T.z (D.line (fH a) (b-1))).2=_):=⟨congrArg CI (h.hA (L:=L) lt ae),congrArg Prod.snd (h.hA (L:=L) lt ae)⟩
  have aL:BY (D.to L) (fH a) (b-1):=by
   refine⟨fun i e=>?_,by show b-1≤D.rs.length;exact Dv ‹_›,fun t t1 e1=>?_,cZ (nR ar.1) ok⟩
   ·induction a using fe with
    |zero=>injections e
    |succ a=>injections e;exact Dj ‹_› ‹_›
   ·have a5:=bR (eQ (ZO a).symm) t1;have av:=hZ (D:=D) (i:=t) (MC ‹_› ‹_›);have:=m7 (t+1) (jf ‹_›) (MD ‹_›);rw[CB (S:=SL D.S L) h.rws av]at this;have:=of_decide_eq_false this;unfold gF at this;show-10000<(D.row t).b9
    split at this<;>lia
  refine⟨by erw[xD];exact ZJ _ _ cY (by erw[gw];exact aL),?_,?_,?_⟩
  all_goals (erw[xD])
  ·erw[ZI,dt,gw,lx,h.step lt ae];exact(qx _ _ _).symm
  ·erw[ZK]
   induction b using fe with
   |zero=>lia
   |succ b=>rfl
  ·erw[ZL,gw];exact ar.2
end
structure xF(p:List Nat)(b:Nat)(k:Int):Prop where
 dec:p.Pairwise (· > ·)
 il:∀e,e∈p→1≤e∧e≤b
 k:(p.length:Int)=k
theorem fB.oH{P:bM}{p:List Nat}{b:Nat}{k f d:Int}(h:fB P p b k f d):xF p b k:=by
 induction h with
 |root=>exact⟨.nil,fun ag h=>(nomatch h),rfl⟩
 |step _ lt _ _ aG=>
  obtain⟨cY,dt,gw⟩:=aG;refine⟨uo.mpr ⟨fun e he=>by have:=(dt e he).2;exact gI ‹_› ‹_›,cY⟩,fun e he=>?_,by erw[gA];exact Dp ‹_›⟩
  rcases ec.mp he with rfl|he
  ·exact⟨Di ‹_› rfl,bE _⟩
  ·have:=dt e he;exact⟨this.1,by lia⟩
theorem ZR{ans:List Int}:∀(pl:List Int) (k:Nat) (idx:List Nat),idx.Pairwise (· < ·)→(∀i,i∈idx→k≤i∧i<k+pl.length)→(∀j x,pl[j]? =I x→ans.contains x=idx.contains (k+j))→((pl.zipIdx k).filter fun p=>ans.contains p.1).map (·.2)=idx:=by
 intro pl
 induction pl with
 |nil=>
  intro k idx _ aa _
  induction idx using bY with
  |nil=>rfl
  |cons i r=>exact absurd (show i<k from(aa i (.head _)).2) (kW.mpr (aa i (.head _)).1)
 |cons x pl aD=>
  intro k idx aL aa ah;erw[List.zipIdx_cons,xY];have h0:ans.contains x=idx.contains k:=ah 0 x rfl;have aA:∀j x,pl[j]? =I x→ans.contains x=idx.contains (k+1+j):=fun j x aC=>by erw[ah (j+1) x aC,show k+(j+1)=k+1+j by lia]
  refine bZ (fun ai:k∈idx=>?_) (fun ai=>?_)
  ·induction idx using bY with
   |nil=>cases ai
   |cons i r=>
    rw[uo]at aL;have e:i=k:=by
     refine eF (ec.mp ai) (fun e=>?_) (fun e=>?_)
     ·exact e.symm
     ·have:=aL.1 k e;have:=(aa i (.head _)).1;exact absurd ‹_› (kW.mpr ‹_›)
    subst e;erw[h0,qs.mpr ai,if_pos rfl,g0]
    congr 1
    refine aD (i+1) r aL.2 (fun j a'=>⟨aL.1 j a',by have:=(aa j (.tail _ a')).2;rw[gA]at this;exact Dk ‹_›⟩) fun j y aV=>?_;erw[aA j y aV,Z5,beq_false_of_ne (show i+1+j≠i by lia),LI]
  ·have:idx.contains k=false:=by
    cases aE:idx.contains k with
    |false=>rfl
    |true=>exact absurd (qs.mp aE) ai
   erw[h0,this];refine aD (k+1) idx aL (fun j a'=>?_) aA;have:=aa j a';rw[gA]at this;have:j≠k:=fun e=>ai (e▸a');exact⟨by lia,Dk (qp ‹_›)⟩
theorem Lj{hp:Int}{af:List aI}{R:List Row}(h:gn hp af R){i j:Nat}{r dz:Row}(av:R[i]? =I r)(xu:R[j]? =I dz)(iM:i<j):r.first<dz.first:=by
 have a:=jc (h.at' r (fI av));refine f7 (d7.mp av) fun aw e=>?_;refine f7 (d7.mp xu) fun a' e4=>?_;have dM:=C4.mp h.dh i j aw a' iM;rw[e,e4]at dM
 rcases dM with dM|⟨_,_,_,_,_,hf,_⟩
 ·have:=a.dB;have:=a.aM;have:=(jc (h.at' dz (fI xu))).f0;lia
 ·exact hf
theorem Lk{hp:Int}{af:List aI}{R:List Row}(h:gn hp af R){q:List Nat}(s:xF q R.length q.length):w4 (lG af hp ((R.length+1)::q)) (R.map fun r=>((r.first:Nat):Int)) af.length (hK q):=by
 have iD:∀i,i<R.length→∃r,R[i]? =I r∧(R.map fun r=>((r.first:Nat):Int))[i]? =I ((r.first:Nat):Int)∧(R.map fun r=>((r.first:Nat):Int)).getD i 0=(r.first:Nat)∧r.first<af.length:=fun i aw=>by
  have av:=gp aw;have e:(R.map fun r=>((r.first:Nat):Int))[i]? =I ((R[i].first:Nat):Int):=by erw[lP,av];rfl
  have a:=jc (h.at' _ (fI av));exact⟨R[i],av,e,by erw[je,e];rfl,gI a.dB (lS a.aM a.ln)⟩
 have CD:∀i,i∈hK q→i<R.length:=fun i aw=>by obtain⟨e,he,rfl⟩:=f9.mp aw;have:=s.il e (lV.mp he);exact ey (uC this.1 xZ) this.2
 have he:lG af hp ((R.length+1)::q)=(hK q).map (fun i=>(R.map fun r=>((r.first:Nat):Int)).getD i 0)++[(af.length:Int)]:=by
  delta lG hK;erw[g0,mE,xj h,←iv,jP];refine congrArg (· ++[(af.length:Int)]) (nO fun e aE=>?_);have:=s.il e (lV.mp aE);obtain⟨r,aa,_,aq,_⟩:=iD (e-1) (ey (uC this.1 xZ) this.2);show _=(R.map fun r=>((r.first:Nat):Int)).getD (e-1) 0;erw[aq];obtain⟨j,rfl⟩:∃j,e=j+1:=⟨e-1,(CL (qq ‹_›)).symm⟩
  rw[lT]at aa;erw[uc h aa];rfl
 refine⟨?_,fun i aw=>by erw[bF];exact CD i aw,he⟩;refine ZR _ 0 _ ?_ (fun i aw=>⟨fx _,by erw[bF,nN];exact CD i aw⟩) fun j x aC=>?_
 ·delta hK;erw[List.pairwise_map,aau];exact s.dec.imp_of_mem fun{a b} aB ae du=>by have:=s.il a aB;have:=s.il b ae;have:a>b:=du;exact MA (qq ‹_›) ‹_›
 ·have a':j<R.length:=by
   have:=(d7.mp aC).1
   rwa [bF]at this
  obtain⟨r,aa,ab,aq,ba⟩:=iD j a';rw[ab]at aC
  injections aC
  erw[nN,Bool.eq_iff_iff,qs,qs,he]
  constructor
  ·intro hm;refine eF (dR.mp hm) (fun hm=>?_) (fun hm=>?_)
   ·obtain⟨i,aw,e⟩:=f9.mp hm;obtain⟨dz,dH,_,vT,_⟩:=iD i (CD i aw);rw[vT]at e
    rcases Nat.lt_trichotomy i j with l|l|l
    ·exact absurd (Int.ofNat.inj e) (ki (Lj h dH aa l))
    ·rwa [←l]
    ·exact absurd (Int.ofNat.inj e) (Nat.ne_of_gt (Lj h aa dH l))
   ·exact absurd (Int.ofNat.inj (dY.mp hm)) (ki ba)
  ·intro hm;exact dR.mpr (.inl (f9.mpr ⟨j,hm,aq⟩))
theorem fB.re{P:bM}{gr:Int→Int}{p:List Nat}{b:Nat}{k f d:Int}(h:fB P p b k f d):fB {P with cB:=gr} p b k f d:=by
 induction h with
 |root=>exact .root
 |step _ lt ok m7 aG=>exact .step aG lt ok m7
theorem xG{P:bM}{L:Int}:hF P false L=J↔(bK P false P.M=[]∨(picked (bK P false P.M) L).2≠L):=by
 unfold hF;cases bK P false P.M with
 |nil=>exact⟨fun ag=>.inl rfl,fun ag=>rfl⟩
 |cons w r=>
  show(if(U ((picked (w::r) L).2≠L)&& !false)=true then J else I _)=J↔_;refine bZ (fun ah:(picked (w::r) L).2≠L=>?_) (fun ah=>?_)
  ·erw[decide_eq_true ah];exact⟨fun ag=>.inr ah,fun ag=>rfl⟩
  ·erw[decide_eq_false ah];exact⟨fun h=>(nomatch h),fun h=>h.elim (fun h=>(nomatch h)) fun h=>absurd h ah⟩
theorem Ll{P:bM}{L:Int}{p:List Nat}(ah:hF P false L=I p):bK P false P.M≠[]∧p=(picked (bK P false P.M) L).1.path:=by
 unfold hF at ah;cases aB:bK P false P.M with
 |nil=>replace ah:=aB▸ah;injections ah
 |cons w r=>
  replace ah:=aB▸ah;refine⟨fun h=>(nomatch h),?_⟩;have ah:(if(U ((picked (w::r) L).2≠L)&& !false)=true then J else I (picked (w::r) L).1.path)=I p:=ah
  split at ah
  ·injections ah
  ·injections ah;rfl
theorem ui{P:bM}{L:Int}(h:hE P)(aA:bK P false P.M≠[]):hF P true L=I (picked (bK P false P.M) L).1.path:=by
 obtain⟨aa,ab,_⟩:=T4 (L:=L) h aA;unfold hF;erw[←ab];cases aB:bK P true P.M with
 |nil=>exact absurd aB aa
 |cons w r=>erw[Bool.not_true,C7];rfl
theorem Lm{P:bM}{last:Bool}{L:Int}{p:List Nat}(h:hE P)(aA:bK P false P.M≠[])(ah:hF P last L=I p):p=(picked (bK P false P.M) L).1.path:=by
 induction last using hL with
 |false=>exact(Ll ah).2
 |true=>replace ah:=(ui h aA)▸ah;exact(Option.some.inj ah).symm
theorem Ln(ws:List bc):(picked ws 0).2=0:=rfl
theorem Lo{P:bM}(aA:bK P false P.M≠[]):hF P false 0=I (picked (bK P false P.M) 0).1.path:=by
 cases ah:hF P false 0 with
 |none=>exact absurd (xG.mp ah) (fun h=>h.elim aA fun h=>h rfl)
 |some p=>erw[(Ll ah).2]
theorem Lp{af:List aI}{S:cj}{z hH x L:Int}{last:Bool}{p:List Nat}(cv:(b6 S.hp af).length≤14)(ah:hF (kb af S 0 0 z hH x last).par last L=I p):p.length≤14:=by
 have aB:=Bz (G:=kb af S 0 0 z hH x last) (b6 S.hp af).length cv;have ah:(if(bK (kb af S 0 0 z hH x last).par last (b6 S.hp af).length).isEmpty then J else if U ((picked (bK (kb af S 0 0 z hH x last).par last (b6 S.hp af).length) L).2≠L)&& !last then J else I (picked (bK (kb af S 0 0 z hH x last).par last (b6 S.hp af).length) L).1.path)=I p:=ah;have aB:By (b6 S.hp af).length (bK (kb af S 0 0 z hH x last).par last (b6 S.hp af).length):=aB;generalize bK (kb af S 0 0 z hH x last).par last (b6 S.hp af).length=l at aB ah
 induction l using bY with
 |nil=>injections ah
 |cons w r=>
  have hp:(picked (w::r) L).1.path.length≤14:=Jf (Q:=fun w=>w.path.length≤14) (fun h=>(nomatch h)) fun v aJ=>by
   have:=aB.w v aJ;have a:=this.p;have b:=this.l
   lia
  have ah:(if(U ((picked (w::r) L).2≠L)&& !last)=true then J else I (picked (w::r) L).1.path)=I p:=ah
  split at ah
  ·injections ah
  ·injections ah;exact hp
theorem Lq{D:bX}{S:cj}{af:List aI}{R:List Row}(h:gn S.hp af R)(d:xC D S af)(k:hG af)(el:R.length≤13)(hp:∀r,r∈R→r.b9≤10000)(fQ:Bh S)(cu:0≤S.cu)(m0:200≤D.T.most)(hR:D.T.most≤12000):p5 af S D.T.z D.T.most D.T.x:=by
 have x0:=d.x0;have c2:=d.c2;have da:=d.da;have g5:=d.g5;refine⟨d.n,k,fun it aw=>Cu (d.it it aw),fQ,⟨d.ls.o0,d.ls.a0⟩,⟨d.rs.o0,d.rs.a0⟩,⟨d0 ‹_› rfl,d3 ‹_› rfl⟩,⟨d0 ‹_› rfl,d3 ‹_› rfl⟩,⟨d0 ‹_› rfl,d3 ‹_› rfl⟩,cu,?_,fun q aE=>?_,Zd d.it d.n d.ls d.rs x0 c2 da g5⟩
 ·erw[h.kf,b4,bF];exact jf ‹_›
 ·replace aE:=h.kf▸aE;refine eF (dR.mp aE) (fun aE=>?_) (fun aE=>?_)
  ·obtain⟨r,av,rfl⟩:=f9.mp aE;have:=hp r av;show Num (gF r.b9);unfold gF;refine Mine.eT (fun h=>?_) (fun h=>?_)
   ·exact⟨by decide,by decide⟩
   ·exact⟨Me ‹_› rfl,d3 ‹_› rfl⟩
  ·erw[dY.mp aE];exact⟨by show-2147483647≤(-10000:Int);decide,by show(-10000:Int)≤2147483647;decide⟩
section
variable{D:bX}{bp aR af a7:List aI}
theorem b1.CE(h:b1 D bp aR af a7){L:Int}(cv:Num L):p5 (af++aR) (SL D.S L) D.T.z D.T.most D.T.x∧p5 a7 (SL D.S.ex L) D.T.z D.T.most D.T.x:=by
 have iG:=h.fA.fQ;have a1:=iG.BC;have a2:=iG.Jl;have pG:=iG.wV;have th:=iG.rx;have Hb:=iG.V1;have Ha:=iG.V2;have v8:=iG.BD;have G':=iG.V3;have kA:Num D.S.cS:=⟨d0 ‹_› rfl,d3 ‹_› rfl⟩
 have cT:Num D.S.hp:=⟨d0 ‹_› rfl,d3 ‹_› rfl⟩
 have Lr:Num D.S.dV:=⟨d0 ‹_› rfl,d3 ‹_› rfl⟩
 have vY:Num D.S.cu:=⟨d0 ‹_› rfl,d3 ‹_› rfl⟩
 refine⟨Lq (S:=SL D.S L) h.rws h.qX h.xw.k h.ok.b3 (fun r av=>(h.b.pr r av).kA) ⟨kA,cT,Lr,vY,cv⟩ v8 h.fA.m0 h.fA.hR,Lq (S:=SL D.S.ex L) h.nG h.Lb (Y9 h.qk h.xw.qj) (by erw[h.qo];exact h.ok.b3) (fun r av=>?_) ⟨kA,cT,Lr,vY,cv⟩ v8 h.fA.m0 h.fA.hR⟩;obtain⟨q,aE,rfl⟩:=f9.mp av;exact(h.b.pr q (lV.mp aE)).kA
theorem rL{af:List aI}{S:cj}{z m x:Int}{s t:Nat}{last:Bool}(h:S.loose≠0)(i:Int):(kb af S s t z m x last).par.cB i=i:=by show(bif U (S.loose=0)then 1 else i)=i;erw[decide_eq_false h];rfl
theorem b1.empty(h:b1 D bp aR af a7)(L:Int):bK (pr D (af++aR) (SL D.S L)) false (D.rs.length+1)=[]↔bK (pr D a7 (SL D.S.ex L)) false (D.rs.length+1)=[]:=by
 have:=AY (h.lL (L:=L)) (gR.sym h.lL) h.kg h.lM rfl
 rwa [h.M]at this
theorem b1.act(h:b1 D bp aR af a7)(L:Int)(aA:bK (pr D (af++aR) (SL D.S 0)) false (D.rs.length+1)≠[]):bK (pr D (af++aR) (SL D.S L)) false (D.rs.length+1)≠[]:=by
 intro e;cases aB:bK (pr D (af++aR) (SL D.S 0)) false (D.rs.length+1)with
 |nil=>exact aA aB
 |cons w r=>have s:=wh (h.kg (L:=0)) (w:=w) (by erw[h.M,aB];exact .head _);have s:fB (pr D (af++aR) (SL D.S L)) w.path (pr D (af++aR) (SL D.S L)).M w.line w.fit w.bJ:=fB.re (gr:=(pr D (af++aR) (SL D.S L)).cB) s;obtain⟨v,aJ,_⟩:=Ia (h.kg (L:=L)) s;replace aJ:=e▸(h.M▸aJ);cases aJ
structure Ls(D:bX)(P cn:bM)(L:Int)(w bP:bc):Prop where
 s:fB P w.path (D.rs.length+1) w.line w.fit w.bJ
 s':fB cn bP.path (D.rs.length+1) bP.line bP.fit bP.bJ
 d:w.bJ=bP.bJ
 l:L≠0→w.line=bP.line
theorem b1.ZS(h:b1 D bp aR af a7){L:Int}(aA:bK (pr D (af++aR) (SL D.S L)) false (D.rs.length+1)≠[]):
  Ls D (pr D (af++aR) (SL D.S L)) (pr D a7 (SL D.S.ex L)) L (picked (bK (pr D (af++aR) (SL D.S L)) false (D.rs.length+1)) L).1 (picked (bK (pr D a7 (SL D.S.ex L)) false (D.rs.length+1)) L).1:=by
 have gg:=fun e=>aA ((h.empty L).mpr e);have CF:=fun cv:L≠0=>wi (h.kg (L:=L)) (rL cv);have CG:=fun cv:L≠0=>wi (h.lM (L:=L)) (rL cv);replace CF:=h.M▸CF;replace CG:=h.hJ▸CG;have s:=wh (h.kg (L:=L)) (w:=(picked (bK (pr D (af++aR) (SL D.S L)) false (D.rs.length+1)) L).1) (by erw[h.M];exact wj aA CF);have s':=wh (h.lM (L:=L)) (w:=(picked (bK (pr D a7 (SL D.S.ex L)) false (D.rs.length+1)) L).1) (by erw[h.hJ];exact wj gg CG);replace s:=h.M▸s;replace s':=h.hJ▸s';refine bZ (fun cv:L=0=>?_) (fun cv=>?_)
 ·subst cv;have:=TY (h.lL (L:=0)) (gR.sym h.lL) h.kg h.lM rfl (by erw[h.M];exact aA);replace this:=h.M▸this;exact⟨s,s',this,fun h=>absurd rfl h⟩
 ·have:=Ic (h.lL (L:=L)) (gR.sym h.lL) h.kg h.lM (rL cv) (rL cv) cv (by erw[h.M];exact aA);replace this:=h.M▸this;exact⟨s,s',this.2.2,fun ag=>this.2.1⟩
theorem ZT{n:Nat}{q:List Nat}(aE:∀e,e∈q→1≤e∧e≤n):hK (q.reverse.map (n+1- ·))=(hK q).reverse.map fun i=>n-1-i:=by unfold hK;erw[←iv,←iv,L7,jP,jP];refine nO fun e he=>?_;obtain⟨j,rfl⟩:=mC.mpr (aE e he).1;exact Zj
theorem b1.ZU(h:b1 D bp aR af a7){L:Int}{w bP:bc}(t:Ls D (pr D (af++aR) (SL D.S L)) (pr D a7 (SL D.S.ex L)) L w bP)(aa:w.path.length≤14)(ab:bP.path.length≤14):B3 D (af++aR) a7 L w.path bP.path:=by
 obtain⟨s,s',hd,ar⟩:=t;have oH:=fB.oH s;have xH:=fB.oH s';obtain⟨q,e⟩:=AW (h.kg (L:=L)) (by erw[h.M];exact s);obtain⟨gu,e4⟩:=AW (h.lM (L:=L)) (by erw[h.hJ];exact s');replace e:=h.M▸e;replace e4:=h.hJ▸e4;rw[e]at s oH aa⊢;rw[e4]at s' xH ab⊢;have nu:=(gR.sym (h.lL (L:=L))).pt h.lM.da h.kg.da (by erw[h.hJ];exact s');rw[h.hJ]at nu;obtain⟨sx,ZV⟩:=nu;have t8:∀{p:List Nat} {k:Int},xF ((D.rs.length+1)::p) (D.rs.length+1) k→xF p D.rs.length p.length:=fun hp=>by obtain⟨cY,dt,_⟩:=hp;rw[uo]at cY;exact⟨cY.2,fun e he=>⟨(dt e (.tail _ he)).1,by have:D.rs.length+1>e:=cY.1 e he;exact kh ‹_›⟩,rfl⟩
 have a:=h.Li s (bE _);have b:=h.Li ZV (bE _);have ef:=a.ch;have e6:=b.ch;have fW:=a.cost;have m6:=b.cost;rw[xD,lT]at ef fW;rw[xD,lT,ZT (t8 xH).il]at e6 m6;have ln:=h.qk.length;replace ln:=ff▸ln;have dz:=Lk (q:=gu) h.nG (by erw[h.qo];exact t8 xH);rw[h.qo,jP,ln,show(D.rs.reverse.map ((fun r:Row=>((r.first:Nat):Int))∘kS (af++aR).length))=D.rs.reverse.map fun r=>((af++aR).length:Int)-1-(r.last:Nat)from nO fun r av=>by have:=jc (h.rws.at' r (lV.mp av));have eu:=this.ln;have gc:=this.aM;show(((af++aR).length-1-r.last:Nat):Int)=_;exact Dt (lS ‹_› ‹_›),←h.en]at dz
 have r:=Lk (q:=q) h.rws (t8 oH);replace r:=(h.en).symm▸r;have Lu:∀p:List Nat,(hK p).length=p.length:=fun p=>by unfold hK;erw[bF,ff]
 rw[gA]at aa ab;refine⟨fun cv=>?_,hK q,hK gu,r,dz,ef,e6,by erw[show(D.to L).rs.length=D.rs.length from rfl,fW,m6];exact hd,by erw[Lu];exact qz ‹_› rfl,by erw[Lu];exact qz ‹_› rfl⟩;have dH:=oH.k;have ft:=xH.k;have vT:=ar cv
 lia
theorem mA(D:bX)(af:List aI)(S:cj)(last:Bool):eZ D af S last=hF (pr D af S) last S.loose:=rfl
theorem b1.len(h:b1 D bp aR af a7){L:Int}{last:Bool}:(∀p,eZ D (af++aR) (SL D.S L) last=I p→p.length≤14)∧∀p,eZ D a7 (SL D.S.ex L) last=I p→p.length≤14:=by
 have eW:Num 0:=⟨by decide,by decide⟩
 obtain⟨c,dr⟩:=h.CE eW;exact⟨fun p ah=>Lp (S:=SL D.S L) c.L ah,fun p ah=>Lp (S:=SL D.S.ex L) dr.L ah⟩
theorem b1.none(h:b1 D bp aR af a7)(L:Int):hF (pr D (af++aR) (SL D.S L)) false L=J↔hF (pr D a7 (SL D.S.ex L)) false L=J:=by
 erw[xG,xG,h.M,h.hJ];refine bZ (fun aA:bK (pr D (af++aR) (SL D.S L)) false (D.rs.length+1)=[]=>?_) (fun aA=>?_)
 ·exact⟨fun ag=>.inl ((h.empty L).mp aA),fun ag=>.inl aA⟩
 ·have gg:=fun e=>aA ((h.empty L).mpr e);have:(picked (bK (pr D (af++aR) (SL D.S L)) false (D.rs.length+1)) L).2=(picked (bK (pr D a7 (SL D.S.ex L)) false (D.rs.length+1)) L).2:=by
   refine bZ (fun cv:L=0=>?_) (fun cv=>?_)
   ·subst cv;erw[Ln,Ln]
   ·have:=Ic (h.lL (L:=L)) (gR.sym h.lL) h.kg h.lM (rL cv) (rL cv) cv (by erw[h.M];exact aA);replace this:=h.M▸this;exact this.1
  erw[this];exact⟨fun x=>.inr (x.resolve_left aA),fun x=>.inr (x.resolve_left gg)⟩
theorem b1.CH(h:b1 D bp aR af a7)(ah:eZ D (af++aR) (SL D.S 0) false≠ .none)(L:Int):bK (pr D (af++aR) (SL D.S L)) false (D.rs.length+1)≠[]∧bK (pr D a7 (SL D.S.ex L)) false (D.rs.length+1)≠[]:=by rw[mA]at ah;have:bK (pr D (af++aR) (SL D.S L)) false (D.rs.length+1)≠[]:=h.act L fun e=>ah (xG.mpr (.inl (by erw[h.M];exact e)));exact⟨this,fun e=>this ((h.empty L).mpr e)⟩
theorem b1.same(h:b1 D bp aR af a7){L:Int}{last:Bool}{p dp:List Nat}(ah:eZ D (af++aR) (SL D.S 0) false≠ .none)(e:eZ D (af++aR) (SL D.S L) last=I p)(e4:eZ D a7 (SL D.S.ex L) last=I dp):B3 D (af++aR) a7 L p dp:=by refine bC (fun a gT=>?_) (h.CH ah L);have aM:=h.len.1 p e;have bt:=h.len.2 dp e4;rw[mA]at e e4;have q:=Lm (h.kg (L:=L)) (by erw[h.M];exact a) e;have gu:=Lm (h.lM (L:=L)) (by erw[h.hJ];exact gT) e4;replace q:=h.M▸q;replace gu:=h.hJ▸gu;rw[q]at aM⊢;rw[gu]at bt⊢;exact h.ZU (h.ZS a) aM bt
theorem b1.tn(h:b1 D bp aR af a7):B4 D (af++aR) a7:=by
 refine⟨fun L cv=>(h.CE cv).1,fun L cv=>(h.CE cv).2,fun L=>?_,fun L ah=>?_,fun ah=>?_,fun L last p dp ah e e4=>h.same ah e e4,fun L last p ah=>bR (h.len.1 p ah) (by decide),fun L last p ah=>bR (h.len.2 p ah) (by decide)⟩
 ·erw[mA,mA];exact h.none L
 ·obtain⟨a,gT⟩:=h.CH ah L;erw[mA,mA,ui h.kg (by erw[h.M];exact a),ui h.lM (by erw[h.hJ];exact gT)];exact⟨fun h=>(nomatch h),fun h=>(nomatch h)⟩
 ·obtain⟨a,gT⟩:=h.CH ah 0;have z:∀S:cj,(SL S 0).loose=0:=fun ag=>rfl;rw[mA,mA,mA,mA,z,z,ui h.kg (by rw[h.M];exact a),ui h.lM (by rw[h.hJ];exact gT),Lo (by rw[h.M];exact a),Lo (by rw[h.hJ];exact gT)];exact⟨rfl,rfl⟩
end
theorem ZW{T:Tl}{S:cj}{bp aR:List aI}{cT:Nat}(cc:t5 T S bp aR cT):w8 T S (qd T S) bp aR cT:=by
 have gz:∀{af:List aI} {ws:List Int} {gs:List (List bb)} {rs:List Row},Lay S.hp bp af ws gs rs→Cr af ws gs rs:=fun l=>by obtain⟨t6,lJ,lK⟩:=cc.eI;exact Cs cc.fQ.wV cc.fQ.rx (by erw[lK];exact(rG lJ).1.rev) (by erw[lK,ff];exact qe lJ) l
 refine⟨fun af ws gs rs a7 l aA qk=>(Zo cc l aA qk).tn,fun af ws gs rs l aA=>KR cc l aA,fun af ws gs rs l r av=>?_,fun af ws gs rs l it aw=>?_,qe cc.ay⟩
 ·have:=(gz l).pr r av;have a:=this.eW;have b:=this.kA;exact⟨d0 ‹_› rfl,d3 ‹_› rfl⟩
 ·refine eF (dR.mp aw) (fun aw=>?_) (fun aw=>?_)
  ·exact Cu ((gz l).it it aw)
  ·exact Cu ((rG cc.ay).1.it it aw)
end Mine.L
end
section
open PySem PySem.W
theorem Mine.ZX:PySem.Challenge.rw_tu0005_01.Holds:=Mine.Th fun ns h=>by obtain⟨o,e,h',t',rfl⟩:=Mine.L.X4 (n:=13) (t:=0) (fun ag ag ag ag ag cc=>Mine.L.ZW cc) (ns:=ns) (cz ‹_› rfl);exact⟨h',t',e⟩
end
end
theorem PySem.Challenge.cw_tu0005_01_holds : PySem.Challenge.rw_tu0005_01.Holds :=
 Mine.ZX
